import PyProof.Rows.All
import Wide.All
import OpenK.AllK
import Wide.FinOn
import KE.KStateDown
import KE.KMathGC
import KE.DataMinMax
import KE.SortData
import KE.SortKeyHeap
import Lean
import HandS.ForMost
import HandS.Exc
import HandS.WordsExc
import HandS.Defaults
import HandS.Evl
import HandS.Flow
import HandS.Zip
import HandS.IsInst
import HandS.Conv
import HandS.Sort
import HandS.SortInts
import HandS.SortKw
import HandS.TupSets
import HandS.DictComp
import HandS.DictTup
import HandS.Star
import HandS.TupMul
import HandS.TupAny
import HandS.Slots
import HandS.SlotsOwn
import HandS.Wide
import HandS.ListEq
import HandS.DictEq
import HandS.DeepEq
import HandS.TryOnly
import HandS.ExcInit
import HandS.ExcField
import HandS.Lambda
import HandS.Head0
import HandS.Head1
import HandS.Head2
import HandS.HeadEnd
import HandS.HeadHook1
import HandS.HeadHook2
import HandS.HeadHook3
import HandS.HeadHook4
import HandS.HeadWalk
import KE.KExcSuper
import KE.KExcInit
import HandS.Head3
import KE.GoesMore
import KE.GoesComp
import HandS.ForExc
import PySem.Challenge.RW_pureladders_k20_whole_bounds_met_for_eve
section
set_option Elab.async false
set_option linter.all false
set_option maxRecDepth 100000
set_option maxHeartbeats 2000000
namespace PLW
open PySem PySem.Spec PyProof.Rows L2

def top (i : Nat) : Stmt := PySem.Challenge.pw_pureladders_k20_whole_bounds_met_for_eve.main.body.getD i (.Pass ⟨0, 0, 0, 0⟩)
abbrev s_TooMany_init : Stmt := inClass (top 8) 0
abbrev s_is_whole : Stmt := top 10
abbrev s_is_within : Stmt := top 11
abbrev s_require_within : Stmt := top 12
abbrev s_choices_of : Stmt := top 13
abbrev s_divides : Stmt := top 18
abbrev s_require_letters : Stmt := top 20
abbrev s_least_of : Stmt := top 28
abbrev s_are_long : Stmt := top 29
abbrev s_few_least_of : Stmt := top 30
abbrev s_KeptMembers_init : Stmt := inClass (top 38) 1
abbrev s_Lot_init : Stmt := inClass (top 39) 1
abbrev s_Lot_members : Stmt := inClass (top 39) 4
abbrev s_Lot_eq : Stmt := inClass (top 39) 14
abbrev s_is_passed_member : Stmt := top 40
abbrev s_members_told : Stmt := top 41
abbrev s_made_lot : Stmt := top 42
abbrev s_is_all_in : Stmt := top 44
abbrev s_require_lot : Stmt := top 47
abbrev s_most_common_letter : Stmt := top 49
abbrev s_split_exponent : Stmt := top 50
abbrev s_apart_numerator : Stmt := top 51
abbrev s_lessened : Stmt := top 52
abbrev s_numerator_of : Stmt := top 53
abbrev s_numerator_in : Stmt := top 54
abbrev s_left_count : Stmt := top 55
abbrev s_numerator : Stmt := top 56
abbrev s_products_in : Stmt := top 63
abbrev s_product_with : Stmt := top 64
abbrev s_climbed : Stmt := top 65
abbrev s_greatest_top : Stmt := top 66
abbrev s_shares_of : Stmt := top 67
abbrev s_bound_of : Stmt := top 68
abbrev s_new_members : Stmt := top 69
abbrev s_first_members : Stmt := top 70
abbrev s_count_at : Stmt := top 71
abbrev s_meets : Stmt := top 72
abbrev s_is_met : Stmt := top 73
abbrev s_greatest_degree : Stmt := top 74
abbrev s_least_met : Stmt := top 75
abbrev s_met_from : Stmt := top 76
abbrev s_members_like : Stmt := top 77
abbrev s_first_lot_like : Stmt := top 78
abbrev s_is_first_lot : Stmt := top 79
abbrev s_law_tub : Stmt := top 81
abbrev s_law_pour : Stmt := top 82
abbrev s_law_choice : Stmt := top 83
abbrev s_law_binomial : Stmt := top 84
abbrev s_law_many : Stmt := top 85
abbrev s_law_listed : Stmt := top 86
abbrev s_law_shares : Stmt := top 87
abbrev s_law_bound : Stmt := top 88
abbrev s_law_divides : Stmt := top 89
abbrev s_law_has : Stmt := top 90
abbrev s_law_least : Stmt := top 91
abbrev s_law_numerator : Stmt := top 92
abbrev s_law_left : Stmt := top 93
abbrev s_law_members : Stmt := top 94
abbrev s_law_is_met : Stmt := top 95
abbrev s_law_from : Stmt := top 96
abbrev s_law_due : Stmt := top 97
abbrev s_law_told : Stmt := top 98
abbrev s_law_like_right : Stmt := top 99
abbrev s_law_right : Stmt := top 100
abbrev s_law : Stmt := top 101
def d_TooMany_init : He.DefD := ⟨("TooMany", some "__init__"), "__init__", "TooMany.__init__", defArgs s_TooMany_init, defBody s_TooMany_init, defScope s_TooMany_init, [], []⟩
def d_is_whole : He.DefD := ⟨("is_whole", none), "is_whole", "is_whole", defArgs s_is_whole, defBody s_is_whole, defScope s_is_whole, [], []⟩
def d_is_within : He.DefD := ⟨("is_within", none), "is_within", "is_within", defArgs s_is_within, defBody s_is_within, defScope s_is_within, [], []⟩
def d_require_within : He.DefD := ⟨("require_within", none), "require_within", "require_within", defArgs s_require_within, defBody s_require_within, defScope s_require_within, [], []⟩
def d_choices_of : He.DefD := ⟨("choices_of", none), "choices_of", "choices_of", defArgs s_choices_of, defBody s_choices_of, defScope s_choices_of, [], []⟩
def d_divides : He.DefD := ⟨("divides", none), "divides", "divides", defArgs s_divides, defBody s_divides, defScope s_divides, [], []⟩
def d_require_letters : He.DefD := ⟨("require_letters", none), "require_letters", "require_letters", defArgs s_require_letters, defBody s_require_letters, defScope s_require_letters, [], []⟩
def d_least_of : He.DefD := ⟨("least_of", none), "least_of", "least_of", defArgs s_least_of, defBody s_least_of, defScope s_least_of, [], []⟩
def d_are_long : He.DefD := ⟨("are_long", none), "are_long", "are_long", defArgs s_are_long, defBody s_are_long, defScope s_are_long, [], []⟩
def d_few_least_of : He.DefD := ⟨("few_least_of", none), "few_least_of", "few_least_of", defArgs s_few_least_of, defBody s_few_least_of, defScope s_few_least_of, [], []⟩
def d_KeptMembers_init : He.DefD := ⟨("KeptMembers", some "__init__"), "__init__", "KeptMembers.__init__", defArgs s_KeptMembers_init, defBody s_KeptMembers_init, defScope s_KeptMembers_init, [], []⟩
def d_Lot_init : He.DefD := ⟨("Lot", some "__init__"), "__init__", "Lot.__init__", defArgs s_Lot_init, defBody s_Lot_init, defScope s_Lot_init, [], []⟩
def d_Lot_members : He.DefD := ⟨("Lot", some "members"), "members", "Lot.members", defArgs s_Lot_members, defBody s_Lot_members, defScope s_Lot_members, [], []⟩
def d_Lot_eq : He.DefD := ⟨("Lot", some "__eq__"), "__eq__", "Lot.__eq__", defArgs s_Lot_eq, defBody s_Lot_eq, defScope s_Lot_eq, [], []⟩
def d_is_passed_member : He.DefD := ⟨("is_passed_member", none), "is_passed_member", "is_passed_member", defArgs s_is_passed_member, defBody s_is_passed_member, defScope s_is_passed_member, [], []⟩
def d_members_told : He.DefD := ⟨("members_told", none), "members_told", "members_told", defArgs s_members_told, defBody s_members_told, defScope s_members_told, [], []⟩
def d_made_lot : He.DefD := ⟨("made_lot", none), "made_lot", "made_lot", defArgs s_made_lot, defBody s_made_lot, defScope s_made_lot, [], []⟩
def d_is_all_in : He.DefD := ⟨("is_all_in", none), "is_all_in", "is_all_in", defArgs s_is_all_in, defBody s_is_all_in, defScope s_is_all_in, [], []⟩
def d_require_lot : He.DefD := ⟨("require_lot", none), "require_lot", "require_lot", defArgs s_require_lot, defBody s_require_lot, defScope s_require_lot, [], []⟩
def d_most_common_letter : He.DefD := ⟨("most_common_letter", none), "most_common_letter", "most_common_letter", defArgs s_most_common_letter, defBody s_most_common_letter, defScope s_most_common_letter, [], []⟩
def d_split_exponent : He.DefD := ⟨("split_exponent", none), "split_exponent", "split_exponent", defArgs s_split_exponent, defBody s_split_exponent, defScope s_split_exponent, [], []⟩
def d_apart_numerator : He.DefD := ⟨("apart_numerator", none), "apart_numerator", "apart_numerator", defArgs s_apart_numerator, defBody s_apart_numerator, defScope s_apart_numerator, [], []⟩
def d_lessened : He.DefD := ⟨("lessened", none), "lessened", "lessened", defArgs s_lessened, defBody s_lessened, defScope s_lessened, [], []⟩
def d_numerator_of : He.DefD := ⟨("numerator_of", none), "numerator_of", "numerator_of", defArgs s_numerator_of, defBody s_numerator_of, defScope s_numerator_of, [], []⟩
def d_numerator_in : He.DefD := ⟨("numerator_in", none), "numerator_in", "numerator_in", defArgs s_numerator_in, defBody s_numerator_in, defScope s_numerator_in, [], []⟩
def d_left_count : He.DefD := ⟨("left_count", none), "left_count", "left_count", defArgs s_left_count, defBody s_left_count, defScope s_left_count, [], []⟩
def d_numerator : He.DefD := ⟨("numerator", none), "numerator", "numerator", defArgs s_numerator, defBody s_numerator, defScope s_numerator, [], []⟩
def d_products_in : He.DefD := ⟨("products_in", none), "products_in", "products_in", defArgs s_products_in, defBody s_products_in, defScope s_products_in, [], []⟩
def d_product_with : He.DefD := ⟨("product_with", none), "product_with", "product_with", defArgs s_product_with, defBody s_product_with, defScope s_product_with, [], []⟩
def d_climbed : He.DefD := ⟨("climbed", none), "climbed", "climbed", defArgs s_climbed, defBody s_climbed, defScope s_climbed, [], []⟩
def d_greatest_top : He.DefD := ⟨("greatest_top", none), "greatest_top", "greatest_top", defArgs s_greatest_top, defBody s_greatest_top, defScope s_greatest_top, [], []⟩
def d_shares_of : He.DefD := ⟨("shares_of", none), "shares_of", "shares_of", defArgs s_shares_of, defBody s_shares_of, defScope s_shares_of, [], []⟩
def d_bound_of : He.DefD := ⟨("bound_of", none), "bound_of", "bound_of", defArgs s_bound_of, defBody s_bound_of, defScope s_bound_of, [], []⟩
def d_new_members : He.DefD := ⟨("new_members", none), "new_members", "new_members", defArgs s_new_members, defBody s_new_members, defScope s_new_members, [], []⟩
def d_first_members : He.DefD := ⟨("first_members", none), "first_members", "first_members", defArgs s_first_members, defBody s_first_members, defScope s_first_members, [], []⟩
def d_count_at : He.DefD := ⟨("count_at", none), "count_at", "count_at", defArgs s_count_at, defBody s_count_at, defScope s_count_at, [], []⟩
def d_meets : He.DefD := ⟨("meets", none), "meets", "meets", defArgs s_meets, defBody s_meets, defScope s_meets, [], []⟩
def d_is_met : He.DefD := ⟨("is_met", none), "is_met", "is_met", defArgs s_is_met, defBody s_is_met, defScope s_is_met, [], []⟩
def d_greatest_degree : He.DefD := ⟨("greatest_degree", none), "greatest_degree", "greatest_degree", defArgs s_greatest_degree, defBody s_greatest_degree, defScope s_greatest_degree, [], []⟩
def d_least_met : He.DefD := ⟨("least_met", none), "least_met", "least_met", defArgs s_least_met, defBody s_least_met, defScope s_least_met, [], []⟩
def d_met_from : He.DefD := ⟨("met_from", none), "met_from", "met_from", defArgs s_met_from, defBody s_met_from, defScope s_met_from, [], []⟩
def d_members_like : He.DefD := ⟨("members_like", none), "members_like", "members_like", defArgs s_members_like, defBody s_members_like, defScope s_members_like, [], []⟩
def d_first_lot_like : He.DefD := ⟨("first_lot_like", none), "first_lot_like", "first_lot_like", defArgs s_first_lot_like, defBody s_first_lot_like, defScope s_first_lot_like, [], []⟩
def d_is_first_lot : He.DefD := ⟨("is_first_lot", none), "is_first_lot", "is_first_lot", defArgs s_is_first_lot, defBody s_is_first_lot, defScope s_is_first_lot, [], []⟩
def d_law_tub : He.DefD := ⟨("_law_tub", none), "_law_tub", "_law_tub", defArgs s_law_tub, defBody s_law_tub, defScope s_law_tub, [], []⟩
def d_law_pour : He.DefD := ⟨("_law_pour", none), "_law_pour", "_law_pour", defArgs s_law_pour, defBody s_law_pour, defScope s_law_pour, [], []⟩
def d_law_choice : He.DefD := ⟨("_law_choice", none), "_law_choice", "_law_choice", defArgs s_law_choice, defBody s_law_choice, defScope s_law_choice, [], []⟩
def d_law_binomial : He.DefD := ⟨("_law_binomial", none), "_law_binomial", "_law_binomial", defArgs s_law_binomial, defBody s_law_binomial, defScope s_law_binomial, [], []⟩
def d_law_many : He.DefD := ⟨("_law_many", none), "_law_many", "_law_many", defArgs s_law_many, defBody s_law_many, defScope s_law_many, [], []⟩
def d_law_listed : He.DefD := ⟨("_law_listed", none), "_law_listed", "_law_listed", defArgs s_law_listed, defBody s_law_listed, defScope s_law_listed, [], []⟩
def d_law_shares : He.DefD := ⟨("_law_shares", none), "_law_shares", "_law_shares", defArgs s_law_shares, defBody s_law_shares, defScope s_law_shares, [], []⟩
def d_law_bound : He.DefD := ⟨("_law_bound", none), "_law_bound", "_law_bound", defArgs s_law_bound, defBody s_law_bound, defScope s_law_bound, [], []⟩
def d_law_divides : He.DefD := ⟨("_law_divides", none), "_law_divides", "_law_divides", defArgs s_law_divides, defBody s_law_divides, defScope s_law_divides, [], []⟩
def d_law_has : He.DefD := ⟨("_law_has", none), "_law_has", "_law_has", defArgs s_law_has, defBody s_law_has, defScope s_law_has, [], []⟩
def d_law_least : He.DefD := ⟨("_law_least", none), "_law_least", "_law_least", defArgs s_law_least, defBody s_law_least, defScope s_law_least, [], []⟩
def d_law_numerator : He.DefD := ⟨("_law_numerator", none), "_law_numerator", "_law_numerator", defArgs s_law_numerator, defBody s_law_numerator, defScope s_law_numerator, [], []⟩
def d_law_left : He.DefD := ⟨("_law_left", none), "_law_left", "_law_left", defArgs s_law_left, defBody s_law_left, defScope s_law_left, [], []⟩
def d_law_members : He.DefD := ⟨("_law_members", none), "_law_members", "_law_members", defArgs s_law_members, defBody s_law_members, defScope s_law_members, [], []⟩
def d_law_is_met : He.DefD := ⟨("_law_is_met", none), "_law_is_met", "_law_is_met", defArgs s_law_is_met, defBody s_law_is_met, defScope s_law_is_met, [], []⟩
def d_law_from : He.DefD := ⟨("_law_from", none), "_law_from", "_law_from", defArgs s_law_from, defBody s_law_from, defScope s_law_from, [], []⟩
def d_law_due : He.DefD := ⟨("_law_due", none), "_law_due", "_law_due", defArgs s_law_due, defBody s_law_due, defScope s_law_due, [], []⟩
def d_law_told : He.DefD := ⟨("_law_told", none), "_law_told", "_law_told", defArgs s_law_told, defBody s_law_told, defScope s_law_told, [], []⟩
def d_law_like_right : He.DefD := ⟨("_law_like_right", none), "_law_like_right", "_law_like_right", defArgs s_law_like_right, defBody s_law_like_right, defScope s_law_like_right, [], []⟩
def d_law_right : He.DefD := ⟨("_law_right", none), "_law_right", "_law_right", defArgs s_law_right, defBody s_law_right, defScope s_law_right, [], []⟩
def d_law : He.DefD := ⟨("law", none), "law", "law", defArgs s_law, defBody s_law, defScope s_law, [], []⟩
def fnl : List He.DefD := [d_is_whole, d_is_within, d_require_within, d_choices_of, d_divides, d_require_letters, d_least_of, d_are_long, d_few_least_of, d_is_passed_member, d_members_told, d_made_lot, d_is_all_in, d_require_lot, d_most_common_letter, d_split_exponent, d_apart_numerator, d_lessened, d_numerator_of, d_numerator_in, d_left_count, d_numerator, d_products_in, d_product_with, d_climbed, d_greatest_top, d_shares_of, d_bound_of, d_new_members, d_first_members, d_count_at, d_meets, d_is_met, d_greatest_degree, d_least_met, d_met_from, d_members_like, d_first_lot_like, d_is_first_lot, d_law_tub, d_law_pour, d_law_choice, d_law_binomial, d_law_many, d_law_listed, d_law_shares, d_law_bound, d_law_divides, d_law_has, d_law_least, d_law_numerator, d_law_left, d_law_members, d_law_is_met, d_law_from, d_law_due, d_law_told, d_law_like_right, d_law_right, d_law]
def fal : List He.Fa := [.glo "is_whole", .glo "is_within", .glo "require_within", .glo "choices_of", .glo "divides", .glo "require_letters", .glo "least_of", .glo "are_long", .glo "few_least_of", .glo "is_passed_member", .glo "members_told", .glo "made_lot", .glo "is_all_in", .glo "require_lot", .glo "most_common_letter", .glo "split_exponent", .glo "apart_numerator", .glo "lessened", .glo "numerator_of", .glo "numerator_in", .glo "left_count", .glo "numerator", .glo "products_in", .glo "product_with", .glo "climbed", .glo "greatest_top", .glo "shares_of", .glo "bound_of", .glo "new_members", .glo "first_members", .glo "count_at", .glo "meets", .glo "is_met", .glo "greatest_degree", .glo "least_met", .glo "met_from", .glo "members_like", .glo "first_lot_like", .glo "is_first_lot", .glo "_law_tub", .glo "_law_pour", .glo "_law_choice", .glo "_law_binomial", .glo "_law_many", .glo "_law_listed", .glo "_law_shares", .glo "_law_bound", .glo "_law_divides", .glo "_law_has", .glo "_law_least", .glo "_law_numerator", .glo "_law_left", .glo "_law_members", .glo "_law_is_met", .glo "_law_from", .glo "_law_due", .glo "_law_told", .glo "_law_like_right", .glo "_law_right", .glo "law", .free "isinstance", .free "int", .free "bool", .free "len", .free "all", .free "any", .free "zip", .free "tuple", .free "list", .free "sorted", .free "sum", .free "max", .free "min", .free "range", .free "dict", .free "enumerate", .free "abs", .free "set", .int "MAX_LETTERS" 8, .int "MAX_EXPONENT" 60, .int "MAX_MEMBER_EXPONENT" 8, .int "MAX_MEMBERS" 24, .int "MAX_PASSED" 200, .int "MAX_POWER" 4, .int "MAX_DEGREE" 60, .int "MOST_FIRST_LETTERS" 4, .int "MOST_LETTERS" 8, .int "MOST_MEMBERS" 24, .int "MOST_EXPONENT" 8]

/-- what the top has written: where each def stands, the constants, the built-ins' names -/
structure Tx (K : PySem.W.Frag) (mg : Str → Option Value) : Prop where
  df : ∀ (i : Nat) (d : He.DefD), fnl[i]? = some d → ∃ fd, FunD K d.name d.qual d.params d.body d.scope (d.dvs K) (d.kws K) (He.fAd K d.at_) fd
  glo : ∀ (i : Nat) (x : Str), fal[i]? = some (.glo x) → mg x = some (.ref (He.ga K x))
  fr : ∀ (i : Nat) (x : Str), fal[i]? = some (.free x) → mg x = none
  int : ∀ (i : Nat) (x : Str) (k : Int), fal[i]? = some (.int x k) → ∃ t, mg x = some (.int k t)
  comb : mg "comb" = some (.builtin "math.comb")
/-- a def's promise, as its callers use it -/
structure Has (P : Program) (w : World) (K : PySem.W.Frag) (mg : Str → Option Value) (base : Heap) (x : Str) (ps : List Str) (k : Nat) (sp : Sp) : Prop where
  ex : ∃ fd, FnOk P w K mg base CX0 k (He.ga K x) fd ps sp ∧ Binds K fd ps []
  kp : PySem.W.keepIn K (.ref (He.ga K x)) = true
  gl : mg x = some (.ref (He.ga K x))
theorem pe_h {X : Cx} {x : Str} {ps : List Str} {k : Nat} {sp : Sp} {e : Expr} {es : List Expr} {t : TA} {p pos : Pos} (h : Has X.prog X.w X.K X.mg X.base x ps k sp) (hr : Room k X.A) (hx : Passes CX0 X E0) (ha : PA X (e :: es) t)
    (hg : Gl X x := by rfl) (hdb : (x == ("__debug__" : Str)) = false := by decide) (he : starEach (e :: es) X.env = (false, eval e X.env) :: starEach es X.env := by rfl) (hpl : (backTo pos (starEach es X.env)).any (·.1) = false := by rfl) :
    PE X (.Call (.Name x p) (e :: es) [] pos) (tCall sp [] E0 t) := by
  obtain ⟨fd, F, b⟩ := h.ex
  exact pe_call F hr hg h.gl h.kp b .nil hx ha hdb he hpl

theorem Tx.fn_is_whole {K : PySem.W.Frag} {mg : Str → Option Value} (T : Tx K mg) : ∃ fd, FunD K "is_whole" "is_whole" (defArgs s_is_whole) (defBody s_is_whole) (defScope s_is_whole) [] [] (He.ga K "is_whole") fd := T.df 0 d_is_whole rfl
theorem Tx.g_is_whole {K : PySem.W.Frag} {mg : Str → Option Value} (T : Tx K mg) : mg "is_whole" = some (.ref (He.ga K "is_whole")) := T.glo 0 _ rfl
theorem Tx.fn_is_within {K : PySem.W.Frag} {mg : Str → Option Value} (T : Tx K mg) : ∃ fd, FunD K "is_within" "is_within" (defArgs s_is_within) (defBody s_is_within) (defScope s_is_within) [] [] (He.ga K "is_within") fd := T.df 1 d_is_within rfl
theorem Tx.g_is_within {K : PySem.W.Frag} {mg : Str → Option Value} (T : Tx K mg) : mg "is_within" = some (.ref (He.ga K "is_within")) := T.glo 1 _ rfl
theorem Tx.fn_require_within {K : PySem.W.Frag} {mg : Str → Option Value} (T : Tx K mg) : ∃ fd, FunD K "require_within" "require_within" (defArgs s_require_within) (defBody s_require_within) (defScope s_require_within) [] [] (He.ga K "require_within") fd := T.df 2 d_require_within rfl
theorem Tx.g_require_within {K : PySem.W.Frag} {mg : Str → Option Value} (T : Tx K mg) : mg "require_within" = some (.ref (He.ga K "require_within")) := T.glo 2 _ rfl
theorem Tx.fn_choices_of {K : PySem.W.Frag} {mg : Str → Option Value} (T : Tx K mg) : ∃ fd, FunD K "choices_of" "choices_of" (defArgs s_choices_of) (defBody s_choices_of) (defScope s_choices_of) [] [] (He.ga K "choices_of") fd := T.df 3 d_choices_of rfl
theorem Tx.g_choices_of {K : PySem.W.Frag} {mg : Str → Option Value} (T : Tx K mg) : mg "choices_of" = some (.ref (He.ga K "choices_of")) := T.glo 3 _ rfl
theorem Tx.fn_divides {K : PySem.W.Frag} {mg : Str → Option Value} (T : Tx K mg) : ∃ fd, FunD K "divides" "divides" (defArgs s_divides) (defBody s_divides) (defScope s_divides) [] [] (He.ga K "divides") fd := T.df 4 d_divides rfl
theorem Tx.g_divides {K : PySem.W.Frag} {mg : Str → Option Value} (T : Tx K mg) : mg "divides" = some (.ref (He.ga K "divides")) := T.glo 4 _ rfl
theorem Tx.fn_require_letters {K : PySem.W.Frag} {mg : Str → Option Value} (T : Tx K mg) : ∃ fd, FunD K "require_letters" "require_letters" (defArgs s_require_letters) (defBody s_require_letters) (defScope s_require_letters) [] [] (He.ga K "require_letters") fd := T.df 5 d_require_letters rfl
theorem Tx.g_require_letters {K : PySem.W.Frag} {mg : Str → Option Value} (T : Tx K mg) : mg "require_letters" = some (.ref (He.ga K "require_letters")) := T.glo 5 _ rfl
theorem Tx.fn_least_of {K : PySem.W.Frag} {mg : Str → Option Value} (T : Tx K mg) : ∃ fd, FunD K "least_of" "least_of" (defArgs s_least_of) (defBody s_least_of) (defScope s_least_of) [] [] (He.ga K "least_of") fd := T.df 6 d_least_of rfl
theorem Tx.g_least_of {K : PySem.W.Frag} {mg : Str → Option Value} (T : Tx K mg) : mg "least_of" = some (.ref (He.ga K "least_of")) := T.glo 6 _ rfl
theorem Tx.fn_are_long {K : PySem.W.Frag} {mg : Str → Option Value} (T : Tx K mg) : ∃ fd, FunD K "are_long" "are_long" (defArgs s_are_long) (defBody s_are_long) (defScope s_are_long) [] [] (He.ga K "are_long") fd := T.df 7 d_are_long rfl
theorem Tx.g_are_long {K : PySem.W.Frag} {mg : Str → Option Value} (T : Tx K mg) : mg "are_long" = some (.ref (He.ga K "are_long")) := T.glo 7 _ rfl
theorem Tx.fn_few_least_of {K : PySem.W.Frag} {mg : Str → Option Value} (T : Tx K mg) : ∃ fd, FunD K "few_least_of" "few_least_of" (defArgs s_few_least_of) (defBody s_few_least_of) (defScope s_few_least_of) [] [] (He.ga K "few_least_of") fd := T.df 8 d_few_least_of rfl
theorem Tx.g_few_least_of {K : PySem.W.Frag} {mg : Str → Option Value} (T : Tx K mg) : mg "few_least_of" = some (.ref (He.ga K "few_least_of")) := T.glo 8 _ rfl
theorem Tx.fn_is_passed_member {K : PySem.W.Frag} {mg : Str → Option Value} (T : Tx K mg) : ∃ fd, FunD K "is_passed_member" "is_passed_member" (defArgs s_is_passed_member) (defBody s_is_passed_member) (defScope s_is_passed_member) [] [] (He.ga K "is_passed_member") fd := T.df 9 d_is_passed_member rfl
theorem Tx.g_is_passed_member {K : PySem.W.Frag} {mg : Str → Option Value} (T : Tx K mg) : mg "is_passed_member" = some (.ref (He.ga K "is_passed_member")) := T.glo 9 _ rfl
theorem Tx.fn_members_told {K : PySem.W.Frag} {mg : Str → Option Value} (T : Tx K mg) : ∃ fd, FunD K "members_told" "members_told" (defArgs s_members_told) (defBody s_members_told) (defScope s_members_told) [] [] (He.ga K "members_told") fd := T.df 10 d_members_told rfl
theorem Tx.g_members_told {K : PySem.W.Frag} {mg : Str → Option Value} (T : Tx K mg) : mg "members_told" = some (.ref (He.ga K "members_told")) := T.glo 10 _ rfl
theorem Tx.fn_made_lot {K : PySem.W.Frag} {mg : Str → Option Value} (T : Tx K mg) : ∃ fd, FunD K "made_lot" "made_lot" (defArgs s_made_lot) (defBody s_made_lot) (defScope s_made_lot) [] [] (He.ga K "made_lot") fd := T.df 11 d_made_lot rfl
theorem Tx.g_made_lot {K : PySem.W.Frag} {mg : Str → Option Value} (T : Tx K mg) : mg "made_lot" = some (.ref (He.ga K "made_lot")) := T.glo 11 _ rfl
theorem Tx.fn_is_all_in {K : PySem.W.Frag} {mg : Str → Option Value} (T : Tx K mg) : ∃ fd, FunD K "is_all_in" "is_all_in" (defArgs s_is_all_in) (defBody s_is_all_in) (defScope s_is_all_in) [] [] (He.ga K "is_all_in") fd := T.df 12 d_is_all_in rfl
theorem Tx.g_is_all_in {K : PySem.W.Frag} {mg : Str → Option Value} (T : Tx K mg) : mg "is_all_in" = some (.ref (He.ga K "is_all_in")) := T.glo 12 _ rfl
theorem Tx.fn_require_lot {K : PySem.W.Frag} {mg : Str → Option Value} (T : Tx K mg) : ∃ fd, FunD K "require_lot" "require_lot" (defArgs s_require_lot) (defBody s_require_lot) (defScope s_require_lot) [] [] (He.ga K "require_lot") fd := T.df 13 d_require_lot rfl
theorem Tx.g_require_lot {K : PySem.W.Frag} {mg : Str → Option Value} (T : Tx K mg) : mg "require_lot" = some (.ref (He.ga K "require_lot")) := T.glo 13 _ rfl
theorem Tx.fn_most_common_letter {K : PySem.W.Frag} {mg : Str → Option Value} (T : Tx K mg) : ∃ fd, FunD K "most_common_letter" "most_common_letter" (defArgs s_most_common_letter) (defBody s_most_common_letter) (defScope s_most_common_letter) [] [] (He.ga K "most_common_letter") fd := T.df 14 d_most_common_letter rfl
theorem Tx.g_most_common_letter {K : PySem.W.Frag} {mg : Str → Option Value} (T : Tx K mg) : mg "most_common_letter" = some (.ref (He.ga K "most_common_letter")) := T.glo 14 _ rfl
theorem Tx.fn_split_exponent {K : PySem.W.Frag} {mg : Str → Option Value} (T : Tx K mg) : ∃ fd, FunD K "split_exponent" "split_exponent" (defArgs s_split_exponent) (defBody s_split_exponent) (defScope s_split_exponent) [] [] (He.ga K "split_exponent") fd := T.df 15 d_split_exponent rfl
theorem Tx.g_split_exponent {K : PySem.W.Frag} {mg : Str → Option Value} (T : Tx K mg) : mg "split_exponent" = some (.ref (He.ga K "split_exponent")) := T.glo 15 _ rfl
theorem Tx.fn_apart_numerator {K : PySem.W.Frag} {mg : Str → Option Value} (T : Tx K mg) : ∃ fd, FunD K "apart_numerator" "apart_numerator" (defArgs s_apart_numerator) (defBody s_apart_numerator) (defScope s_apart_numerator) [] [] (He.ga K "apart_numerator") fd := T.df 16 d_apart_numerator rfl
theorem Tx.g_apart_numerator {K : PySem.W.Frag} {mg : Str → Option Value} (T : Tx K mg) : mg "apart_numerator" = some (.ref (He.ga K "apart_numerator")) := T.glo 16 _ rfl
theorem Tx.fn_lessened {K : PySem.W.Frag} {mg : Str → Option Value} (T : Tx K mg) : ∃ fd, FunD K "lessened" "lessened" (defArgs s_lessened) (defBody s_lessened) (defScope s_lessened) [] [] (He.ga K "lessened") fd := T.df 17 d_lessened rfl
theorem Tx.g_lessened {K : PySem.W.Frag} {mg : Str → Option Value} (T : Tx K mg) : mg "lessened" = some (.ref (He.ga K "lessened")) := T.glo 17 _ rfl
theorem Tx.fn_numerator_of {K : PySem.W.Frag} {mg : Str → Option Value} (T : Tx K mg) : ∃ fd, FunD K "numerator_of" "numerator_of" (defArgs s_numerator_of) (defBody s_numerator_of) (defScope s_numerator_of) [] [] (He.ga K "numerator_of") fd := T.df 18 d_numerator_of rfl
theorem Tx.g_numerator_of {K : PySem.W.Frag} {mg : Str → Option Value} (T : Tx K mg) : mg "numerator_of" = some (.ref (He.ga K "numerator_of")) := T.glo 18 _ rfl
theorem Tx.fn_numerator_in {K : PySem.W.Frag} {mg : Str → Option Value} (T : Tx K mg) : ∃ fd, FunD K "numerator_in" "numerator_in" (defArgs s_numerator_in) (defBody s_numerator_in) (defScope s_numerator_in) [] [] (He.ga K "numerator_in") fd := T.df 19 d_numerator_in rfl
theorem Tx.g_numerator_in {K : PySem.W.Frag} {mg : Str → Option Value} (T : Tx K mg) : mg "numerator_in" = some (.ref (He.ga K "numerator_in")) := T.glo 19 _ rfl
theorem Tx.fn_left_count {K : PySem.W.Frag} {mg : Str → Option Value} (T : Tx K mg) : ∃ fd, FunD K "left_count" "left_count" (defArgs s_left_count) (defBody s_left_count) (defScope s_left_count) [] [] (He.ga K "left_count") fd := T.df 20 d_left_count rfl
theorem Tx.g_left_count {K : PySem.W.Frag} {mg : Str → Option Value} (T : Tx K mg) : mg "left_count" = some (.ref (He.ga K "left_count")) := T.glo 20 _ rfl
theorem Tx.fn_numerator {K : PySem.W.Frag} {mg : Str → Option Value} (T : Tx K mg) : ∃ fd, FunD K "numerator" "numerator" (defArgs s_numerator) (defBody s_numerator) (defScope s_numerator) [] [] (He.ga K "numerator") fd := T.df 21 d_numerator rfl
theorem Tx.g_numerator {K : PySem.W.Frag} {mg : Str → Option Value} (T : Tx K mg) : mg "numerator" = some (.ref (He.ga K "numerator")) := T.glo 21 _ rfl
theorem Tx.fn_products_in {K : PySem.W.Frag} {mg : Str → Option Value} (T : Tx K mg) : ∃ fd, FunD K "products_in" "products_in" (defArgs s_products_in) (defBody s_products_in) (defScope s_products_in) [] [] (He.ga K "products_in") fd := T.df 22 d_products_in rfl
theorem Tx.g_products_in {K : PySem.W.Frag} {mg : Str → Option Value} (T : Tx K mg) : mg "products_in" = some (.ref (He.ga K "products_in")) := T.glo 22 _ rfl
theorem Tx.fn_product_with {K : PySem.W.Frag} {mg : Str → Option Value} (T : Tx K mg) : ∃ fd, FunD K "product_with" "product_with" (defArgs s_product_with) (defBody s_product_with) (defScope s_product_with) [] [] (He.ga K "product_with") fd := T.df 23 d_product_with rfl
theorem Tx.g_product_with {K : PySem.W.Frag} {mg : Str → Option Value} (T : Tx K mg) : mg "product_with" = some (.ref (He.ga K "product_with")) := T.glo 23 _ rfl
theorem Tx.fn_climbed {K : PySem.W.Frag} {mg : Str → Option Value} (T : Tx K mg) : ∃ fd, FunD K "climbed" "climbed" (defArgs s_climbed) (defBody s_climbed) (defScope s_climbed) [] [] (He.ga K "climbed") fd := T.df 24 d_climbed rfl
theorem Tx.g_climbed {K : PySem.W.Frag} {mg : Str → Option Value} (T : Tx K mg) : mg "climbed" = some (.ref (He.ga K "climbed")) := T.glo 24 _ rfl
theorem Tx.fn_greatest_top {K : PySem.W.Frag} {mg : Str → Option Value} (T : Tx K mg) : ∃ fd, FunD K "greatest_top" "greatest_top" (defArgs s_greatest_top) (defBody s_greatest_top) (defScope s_greatest_top) [] [] (He.ga K "greatest_top") fd := T.df 25 d_greatest_top rfl
theorem Tx.g_greatest_top {K : PySem.W.Frag} {mg : Str → Option Value} (T : Tx K mg) : mg "greatest_top" = some (.ref (He.ga K "greatest_top")) := T.glo 25 _ rfl
theorem Tx.fn_shares_of {K : PySem.W.Frag} {mg : Str → Option Value} (T : Tx K mg) : ∃ fd, FunD K "shares_of" "shares_of" (defArgs s_shares_of) (defBody s_shares_of) (defScope s_shares_of) [] [] (He.ga K "shares_of") fd := T.df 26 d_shares_of rfl
theorem Tx.g_shares_of {K : PySem.W.Frag} {mg : Str → Option Value} (T : Tx K mg) : mg "shares_of" = some (.ref (He.ga K "shares_of")) := T.glo 26 _ rfl
theorem Tx.fn_bound_of {K : PySem.W.Frag} {mg : Str → Option Value} (T : Tx K mg) : ∃ fd, FunD K "bound_of" "bound_of" (defArgs s_bound_of) (defBody s_bound_of) (defScope s_bound_of) [] [] (He.ga K "bound_of") fd := T.df 27 d_bound_of rfl
theorem Tx.g_bound_of {K : PySem.W.Frag} {mg : Str → Option Value} (T : Tx K mg) : mg "bound_of" = some (.ref (He.ga K "bound_of")) := T.glo 27 _ rfl
theorem Tx.fn_new_members {K : PySem.W.Frag} {mg : Str → Option Value} (T : Tx K mg) : ∃ fd, FunD K "new_members" "new_members" (defArgs s_new_members) (defBody s_new_members) (defScope s_new_members) [] [] (He.ga K "new_members") fd := T.df 28 d_new_members rfl
theorem Tx.g_new_members {K : PySem.W.Frag} {mg : Str → Option Value} (T : Tx K mg) : mg "new_members" = some (.ref (He.ga K "new_members")) := T.glo 28 _ rfl
theorem Tx.fn_first_members {K : PySem.W.Frag} {mg : Str → Option Value} (T : Tx K mg) : ∃ fd, FunD K "first_members" "first_members" (defArgs s_first_members) (defBody s_first_members) (defScope s_first_members) [] [] (He.ga K "first_members") fd := T.df 29 d_first_members rfl
theorem Tx.g_first_members {K : PySem.W.Frag} {mg : Str → Option Value} (T : Tx K mg) : mg "first_members" = some (.ref (He.ga K "first_members")) := T.glo 29 _ rfl
theorem Tx.fn_count_at {K : PySem.W.Frag} {mg : Str → Option Value} (T : Tx K mg) : ∃ fd, FunD K "count_at" "count_at" (defArgs s_count_at) (defBody s_count_at) (defScope s_count_at) [] [] (He.ga K "count_at") fd := T.df 30 d_count_at rfl
theorem Tx.g_count_at {K : PySem.W.Frag} {mg : Str → Option Value} (T : Tx K mg) : mg "count_at" = some (.ref (He.ga K "count_at")) := T.glo 30 _ rfl
theorem Tx.fn_meets {K : PySem.W.Frag} {mg : Str → Option Value} (T : Tx K mg) : ∃ fd, FunD K "meets" "meets" (defArgs s_meets) (defBody s_meets) (defScope s_meets) [] [] (He.ga K "meets") fd := T.df 31 d_meets rfl
theorem Tx.g_meets {K : PySem.W.Frag} {mg : Str → Option Value} (T : Tx K mg) : mg "meets" = some (.ref (He.ga K "meets")) := T.glo 31 _ rfl
theorem Tx.fn_is_met {K : PySem.W.Frag} {mg : Str → Option Value} (T : Tx K mg) : ∃ fd, FunD K "is_met" "is_met" (defArgs s_is_met) (defBody s_is_met) (defScope s_is_met) [] [] (He.ga K "is_met") fd := T.df 32 d_is_met rfl
theorem Tx.g_is_met {K : PySem.W.Frag} {mg : Str → Option Value} (T : Tx K mg) : mg "is_met" = some (.ref (He.ga K "is_met")) := T.glo 32 _ rfl
theorem Tx.fn_greatest_degree {K : PySem.W.Frag} {mg : Str → Option Value} (T : Tx K mg) : ∃ fd, FunD K "greatest_degree" "greatest_degree" (defArgs s_greatest_degree) (defBody s_greatest_degree) (defScope s_greatest_degree) [] [] (He.ga K "greatest_degree") fd := T.df 33 d_greatest_degree rfl
theorem Tx.g_greatest_degree {K : PySem.W.Frag} {mg : Str → Option Value} (T : Tx K mg) : mg "greatest_degree" = some (.ref (He.ga K "greatest_degree")) := T.glo 33 _ rfl
theorem Tx.fn_least_met {K : PySem.W.Frag} {mg : Str → Option Value} (T : Tx K mg) : ∃ fd, FunD K "least_met" "least_met" (defArgs s_least_met) (defBody s_least_met) (defScope s_least_met) [] [] (He.ga K "least_met") fd := T.df 34 d_least_met rfl
theorem Tx.g_least_met {K : PySem.W.Frag} {mg : Str → Option Value} (T : Tx K mg) : mg "least_met" = some (.ref (He.ga K "least_met")) := T.glo 34 _ rfl
theorem Tx.fn_met_from {K : PySem.W.Frag} {mg : Str → Option Value} (T : Tx K mg) : ∃ fd, FunD K "met_from" "met_from" (defArgs s_met_from) (defBody s_met_from) (defScope s_met_from) [] [] (He.ga K "met_from") fd := T.df 35 d_met_from rfl
theorem Tx.g_met_from {K : PySem.W.Frag} {mg : Str → Option Value} (T : Tx K mg) : mg "met_from" = some (.ref (He.ga K "met_from")) := T.glo 35 _ rfl
theorem Tx.fn_members_like {K : PySem.W.Frag} {mg : Str → Option Value} (T : Tx K mg) : ∃ fd, FunD K "members_like" "members_like" (defArgs s_members_like) (defBody s_members_like) (defScope s_members_like) [] [] (He.ga K "members_like") fd := T.df 36 d_members_like rfl
theorem Tx.g_members_like {K : PySem.W.Frag} {mg : Str → Option Value} (T : Tx K mg) : mg "members_like" = some (.ref (He.ga K "members_like")) := T.glo 36 _ rfl
theorem Tx.fn_first_lot_like {K : PySem.W.Frag} {mg : Str → Option Value} (T : Tx K mg) : ∃ fd, FunD K "first_lot_like" "first_lot_like" (defArgs s_first_lot_like) (defBody s_first_lot_like) (defScope s_first_lot_like) [] [] (He.ga K "first_lot_like") fd := T.df 37 d_first_lot_like rfl
theorem Tx.g_first_lot_like {K : PySem.W.Frag} {mg : Str → Option Value} (T : Tx K mg) : mg "first_lot_like" = some (.ref (He.ga K "first_lot_like")) := T.glo 37 _ rfl
theorem Tx.fn_is_first_lot {K : PySem.W.Frag} {mg : Str → Option Value} (T : Tx K mg) : ∃ fd, FunD K "is_first_lot" "is_first_lot" (defArgs s_is_first_lot) (defBody s_is_first_lot) (defScope s_is_first_lot) [] [] (He.ga K "is_first_lot") fd := T.df 38 d_is_first_lot rfl
theorem Tx.g_is_first_lot {K : PySem.W.Frag} {mg : Str → Option Value} (T : Tx K mg) : mg "is_first_lot" = some (.ref (He.ga K "is_first_lot")) := T.glo 38 _ rfl
theorem Tx.fn_law_tub {K : PySem.W.Frag} {mg : Str → Option Value} (T : Tx K mg) : ∃ fd, FunD K "_law_tub" "_law_tub" (defArgs s_law_tub) (defBody s_law_tub) (defScope s_law_tub) [] [] (He.ga K "_law_tub") fd := T.df 39 d_law_tub rfl
theorem Tx.g_law_tub {K : PySem.W.Frag} {mg : Str → Option Value} (T : Tx K mg) : mg "_law_tub" = some (.ref (He.ga K "_law_tub")) := T.glo 39 _ rfl
theorem Tx.fn_law_pour {K : PySem.W.Frag} {mg : Str → Option Value} (T : Tx K mg) : ∃ fd, FunD K "_law_pour" "_law_pour" (defArgs s_law_pour) (defBody s_law_pour) (defScope s_law_pour) [] [] (He.ga K "_law_pour") fd := T.df 40 d_law_pour rfl
theorem Tx.g_law_pour {K : PySem.W.Frag} {mg : Str → Option Value} (T : Tx K mg) : mg "_law_pour" = some (.ref (He.ga K "_law_pour")) := T.glo 40 _ rfl
theorem Tx.fn_law_choice {K : PySem.W.Frag} {mg : Str → Option Value} (T : Tx K mg) : ∃ fd, FunD K "_law_choice" "_law_choice" (defArgs s_law_choice) (defBody s_law_choice) (defScope s_law_choice) [] [] (He.ga K "_law_choice") fd := T.df 41 d_law_choice rfl
theorem Tx.g_law_choice {K : PySem.W.Frag} {mg : Str → Option Value} (T : Tx K mg) : mg "_law_choice" = some (.ref (He.ga K "_law_choice")) := T.glo 41 _ rfl
theorem Tx.fn_law_binomial {K : PySem.W.Frag} {mg : Str → Option Value} (T : Tx K mg) : ∃ fd, FunD K "_law_binomial" "_law_binomial" (defArgs s_law_binomial) (defBody s_law_binomial) (defScope s_law_binomial) [] [] (He.ga K "_law_binomial") fd := T.df 42 d_law_binomial rfl
theorem Tx.g_law_binomial {K : PySem.W.Frag} {mg : Str → Option Value} (T : Tx K mg) : mg "_law_binomial" = some (.ref (He.ga K "_law_binomial")) := T.glo 42 _ rfl
theorem Tx.fn_law_many {K : PySem.W.Frag} {mg : Str → Option Value} (T : Tx K mg) : ∃ fd, FunD K "_law_many" "_law_many" (defArgs s_law_many) (defBody s_law_many) (defScope s_law_many) [] [] (He.ga K "_law_many") fd := T.df 43 d_law_many rfl
theorem Tx.g_law_many {K : PySem.W.Frag} {mg : Str → Option Value} (T : Tx K mg) : mg "_law_many" = some (.ref (He.ga K "_law_many")) := T.glo 43 _ rfl
theorem Tx.fn_law_listed {K : PySem.W.Frag} {mg : Str → Option Value} (T : Tx K mg) : ∃ fd, FunD K "_law_listed" "_law_listed" (defArgs s_law_listed) (defBody s_law_listed) (defScope s_law_listed) [] [] (He.ga K "_law_listed") fd := T.df 44 d_law_listed rfl
theorem Tx.g_law_listed {K : PySem.W.Frag} {mg : Str → Option Value} (T : Tx K mg) : mg "_law_listed" = some (.ref (He.ga K "_law_listed")) := T.glo 44 _ rfl
theorem Tx.fn_law_shares {K : PySem.W.Frag} {mg : Str → Option Value} (T : Tx K mg) : ∃ fd, FunD K "_law_shares" "_law_shares" (defArgs s_law_shares) (defBody s_law_shares) (defScope s_law_shares) [] [] (He.ga K "_law_shares") fd := T.df 45 d_law_shares rfl
theorem Tx.g_law_shares {K : PySem.W.Frag} {mg : Str → Option Value} (T : Tx K mg) : mg "_law_shares" = some (.ref (He.ga K "_law_shares")) := T.glo 45 _ rfl
theorem Tx.fn_law_bound {K : PySem.W.Frag} {mg : Str → Option Value} (T : Tx K mg) : ∃ fd, FunD K "_law_bound" "_law_bound" (defArgs s_law_bound) (defBody s_law_bound) (defScope s_law_bound) [] [] (He.ga K "_law_bound") fd := T.df 46 d_law_bound rfl
theorem Tx.g_law_bound {K : PySem.W.Frag} {mg : Str → Option Value} (T : Tx K mg) : mg "_law_bound" = some (.ref (He.ga K "_law_bound")) := T.glo 46 _ rfl
theorem Tx.fn_law_divides {K : PySem.W.Frag} {mg : Str → Option Value} (T : Tx K mg) : ∃ fd, FunD K "_law_divides" "_law_divides" (defArgs s_law_divides) (defBody s_law_divides) (defScope s_law_divides) [] [] (He.ga K "_law_divides") fd := T.df 47 d_law_divides rfl
theorem Tx.g_law_divides {K : PySem.W.Frag} {mg : Str → Option Value} (T : Tx K mg) : mg "_law_divides" = some (.ref (He.ga K "_law_divides")) := T.glo 47 _ rfl
theorem Tx.fn_law_has {K : PySem.W.Frag} {mg : Str → Option Value} (T : Tx K mg) : ∃ fd, FunD K "_law_has" "_law_has" (defArgs s_law_has) (defBody s_law_has) (defScope s_law_has) [] [] (He.ga K "_law_has") fd := T.df 48 d_law_has rfl
theorem Tx.g_law_has {K : PySem.W.Frag} {mg : Str → Option Value} (T : Tx K mg) : mg "_law_has" = some (.ref (He.ga K "_law_has")) := T.glo 48 _ rfl
theorem Tx.fn_law_least {K : PySem.W.Frag} {mg : Str → Option Value} (T : Tx K mg) : ∃ fd, FunD K "_law_least" "_law_least" (defArgs s_law_least) (defBody s_law_least) (defScope s_law_least) [] [] (He.ga K "_law_least") fd := T.df 49 d_law_least rfl
theorem Tx.g_law_least {K : PySem.W.Frag} {mg : Str → Option Value} (T : Tx K mg) : mg "_law_least" = some (.ref (He.ga K "_law_least")) := T.glo 49 _ rfl
theorem Tx.fn_law_numerator {K : PySem.W.Frag} {mg : Str → Option Value} (T : Tx K mg) : ∃ fd, FunD K "_law_numerator" "_law_numerator" (defArgs s_law_numerator) (defBody s_law_numerator) (defScope s_law_numerator) [] [] (He.ga K "_law_numerator") fd := T.df 50 d_law_numerator rfl
theorem Tx.g_law_numerator {K : PySem.W.Frag} {mg : Str → Option Value} (T : Tx K mg) : mg "_law_numerator" = some (.ref (He.ga K "_law_numerator")) := T.glo 50 _ rfl
theorem Tx.fn_law_left {K : PySem.W.Frag} {mg : Str → Option Value} (T : Tx K mg) : ∃ fd, FunD K "_law_left" "_law_left" (defArgs s_law_left) (defBody s_law_left) (defScope s_law_left) [] [] (He.ga K "_law_left") fd := T.df 51 d_law_left rfl
theorem Tx.g_law_left {K : PySem.W.Frag} {mg : Str → Option Value} (T : Tx K mg) : mg "_law_left" = some (.ref (He.ga K "_law_left")) := T.glo 51 _ rfl
theorem Tx.fn_law_members {K : PySem.W.Frag} {mg : Str → Option Value} (T : Tx K mg) : ∃ fd, FunD K "_law_members" "_law_members" (defArgs s_law_members) (defBody s_law_members) (defScope s_law_members) [] [] (He.ga K "_law_members") fd := T.df 52 d_law_members rfl
theorem Tx.g_law_members {K : PySem.W.Frag} {mg : Str → Option Value} (T : Tx K mg) : mg "_law_members" = some (.ref (He.ga K "_law_members")) := T.glo 52 _ rfl
theorem Tx.fn_law_is_met {K : PySem.W.Frag} {mg : Str → Option Value} (T : Tx K mg) : ∃ fd, FunD K "_law_is_met" "_law_is_met" (defArgs s_law_is_met) (defBody s_law_is_met) (defScope s_law_is_met) [] [] (He.ga K "_law_is_met") fd := T.df 53 d_law_is_met rfl
theorem Tx.g_law_is_met {K : PySem.W.Frag} {mg : Str → Option Value} (T : Tx K mg) : mg "_law_is_met" = some (.ref (He.ga K "_law_is_met")) := T.glo 53 _ rfl
theorem Tx.fn_law_from {K : PySem.W.Frag} {mg : Str → Option Value} (T : Tx K mg) : ∃ fd, FunD K "_law_from" "_law_from" (defArgs s_law_from) (defBody s_law_from) (defScope s_law_from) [] [] (He.ga K "_law_from") fd := T.df 54 d_law_from rfl
theorem Tx.g_law_from {K : PySem.W.Frag} {mg : Str → Option Value} (T : Tx K mg) : mg "_law_from" = some (.ref (He.ga K "_law_from")) := T.glo 54 _ rfl
theorem Tx.fn_law_due {K : PySem.W.Frag} {mg : Str → Option Value} (T : Tx K mg) : ∃ fd, FunD K "_law_due" "_law_due" (defArgs s_law_due) (defBody s_law_due) (defScope s_law_due) [] [] (He.ga K "_law_due") fd := T.df 55 d_law_due rfl
theorem Tx.g_law_due {K : PySem.W.Frag} {mg : Str → Option Value} (T : Tx K mg) : mg "_law_due" = some (.ref (He.ga K "_law_due")) := T.glo 55 _ rfl
theorem Tx.fn_law_told {K : PySem.W.Frag} {mg : Str → Option Value} (T : Tx K mg) : ∃ fd, FunD K "_law_told" "_law_told" (defArgs s_law_told) (defBody s_law_told) (defScope s_law_told) [] [] (He.ga K "_law_told") fd := T.df 56 d_law_told rfl
theorem Tx.g_law_told {K : PySem.W.Frag} {mg : Str → Option Value} (T : Tx K mg) : mg "_law_told" = some (.ref (He.ga K "_law_told")) := T.glo 56 _ rfl
theorem Tx.fn_law_like_right {K : PySem.W.Frag} {mg : Str → Option Value} (T : Tx K mg) : ∃ fd, FunD K "_law_like_right" "_law_like_right" (defArgs s_law_like_right) (defBody s_law_like_right) (defScope s_law_like_right) [] [] (He.ga K "_law_like_right") fd := T.df 57 d_law_like_right rfl
theorem Tx.g_law_like_right {K : PySem.W.Frag} {mg : Str → Option Value} (T : Tx K mg) : mg "_law_like_right" = some (.ref (He.ga K "_law_like_right")) := T.glo 57 _ rfl
theorem Tx.fn_law_right {K : PySem.W.Frag} {mg : Str → Option Value} (T : Tx K mg) : ∃ fd, FunD K "_law_right" "_law_right" (defArgs s_law_right) (defBody s_law_right) (defScope s_law_right) [] [] (He.ga K "_law_right") fd := T.df 58 d_law_right rfl
theorem Tx.g_law_right {K : PySem.W.Frag} {mg : Str → Option Value} (T : Tx K mg) : mg "_law_right" = some (.ref (He.ga K "_law_right")) := T.glo 58 _ rfl
theorem Tx.fn_law {K : PySem.W.Frag} {mg : Str → Option Value} (T : Tx K mg) : ∃ fd, FunD K "law" "law" (defArgs s_law) (defBody s_law) (defScope s_law) [] [] (He.ga K "law") fd := T.df 59 d_law rfl
theorem Tx.g_law {K : PySem.W.Frag} {mg : Str → Option Value} (T : Tx K mg) : mg "law" = some (.ref (He.ga K "law")) := T.glo 59 _ rfl
theorem Tx.isinstance_ {K : PySem.W.Frag} {mg : Str → Option Value} (T : Tx K mg) : mg "isinstance" = none := T.fr 60 _ rfl
theorem Tx.int_ {K : PySem.W.Frag} {mg : Str → Option Value} (T : Tx K mg) : mg "int" = none := T.fr 61 _ rfl
theorem Tx.bool_ {K : PySem.W.Frag} {mg : Str → Option Value} (T : Tx K mg) : mg "bool" = none := T.fr 62 _ rfl
theorem Tx.len_ {K : PySem.W.Frag} {mg : Str → Option Value} (T : Tx K mg) : mg "len" = none := T.fr 63 _ rfl
theorem Tx.all_ {K : PySem.W.Frag} {mg : Str → Option Value} (T : Tx K mg) : mg "all" = none := T.fr 64 _ rfl
theorem Tx.any_ {K : PySem.W.Frag} {mg : Str → Option Value} (T : Tx K mg) : mg "any" = none := T.fr 65 _ rfl
theorem Tx.zip_ {K : PySem.W.Frag} {mg : Str → Option Value} (T : Tx K mg) : mg "zip" = none := T.fr 66 _ rfl
theorem Tx.tuple_ {K : PySem.W.Frag} {mg : Str → Option Value} (T : Tx K mg) : mg "tuple" = none := T.fr 67 _ rfl
theorem Tx.list_ {K : PySem.W.Frag} {mg : Str → Option Value} (T : Tx K mg) : mg "list" = none := T.fr 68 _ rfl
theorem Tx.sorted_ {K : PySem.W.Frag} {mg : Str → Option Value} (T : Tx K mg) : mg "sorted" = none := T.fr 69 _ rfl
theorem Tx.sum_ {K : PySem.W.Frag} {mg : Str → Option Value} (T : Tx K mg) : mg "sum" = none := T.fr 70 _ rfl
theorem Tx.max_ {K : PySem.W.Frag} {mg : Str → Option Value} (T : Tx K mg) : mg "max" = none := T.fr 71 _ rfl
theorem Tx.min_ {K : PySem.W.Frag} {mg : Str → Option Value} (T : Tx K mg) : mg "min" = none := T.fr 72 _ rfl
theorem Tx.range_ {K : PySem.W.Frag} {mg : Str → Option Value} (T : Tx K mg) : mg "range" = none := T.fr 73 _ rfl
theorem Tx.dict_ {K : PySem.W.Frag} {mg : Str → Option Value} (T : Tx K mg) : mg "dict" = none := T.fr 74 _ rfl
theorem Tx.enumerate_ {K : PySem.W.Frag} {mg : Str → Option Value} (T : Tx K mg) : mg "enumerate" = none := T.fr 75 _ rfl
theorem Tx.abs_ {K : PySem.W.Frag} {mg : Str → Option Value} (T : Tx K mg) : mg "abs" = none := T.fr 76 _ rfl
theorem Tx.set_ {K : PySem.W.Frag} {mg : Str → Option Value} (T : Tx K mg) : mg "set" = none := T.fr 77 _ rfl
theorem Tx.i_MAX_LETTERS {K : PySem.W.Frag} {mg : Str → Option Value} (T : Tx K mg) : ∃ t, mg "MAX_LETTERS" = some (.int 8 t) := T.int 78 _ _ rfl
theorem Tx.i_MAX_EXPONENT {K : PySem.W.Frag} {mg : Str → Option Value} (T : Tx K mg) : ∃ t, mg "MAX_EXPONENT" = some (.int 60 t) := T.int 79 _ _ rfl
theorem Tx.i_MAX_MEMBER_EXPONENT {K : PySem.W.Frag} {mg : Str → Option Value} (T : Tx K mg) : ∃ t, mg "MAX_MEMBER_EXPONENT" = some (.int 8 t) := T.int 80 _ _ rfl
theorem Tx.i_MAX_MEMBERS {K : PySem.W.Frag} {mg : Str → Option Value} (T : Tx K mg) : ∃ t, mg "MAX_MEMBERS" = some (.int 24 t) := T.int 81 _ _ rfl
theorem Tx.i_MAX_PASSED {K : PySem.W.Frag} {mg : Str → Option Value} (T : Tx K mg) : ∃ t, mg "MAX_PASSED" = some (.int 200 t) := T.int 82 _ _ rfl
theorem Tx.i_MAX_POWER {K : PySem.W.Frag} {mg : Str → Option Value} (T : Tx K mg) : ∃ t, mg "MAX_POWER" = some (.int 4 t) := T.int 83 _ _ rfl
theorem Tx.i_MAX_DEGREE {K : PySem.W.Frag} {mg : Str → Option Value} (T : Tx K mg) : ∃ t, mg "MAX_DEGREE" = some (.int 60 t) := T.int 84 _ _ rfl
theorem Tx.i_MOST_FIRST_LETTERS {K : PySem.W.Frag} {mg : Str → Option Value} (T : Tx K mg) : ∃ t, mg "MOST_FIRST_LETTERS" = some (.int 4 t) := T.int 85 _ _ rfl
theorem Tx.i_MOST_LETTERS {K : PySem.W.Frag} {mg : Str → Option Value} (T : Tx K mg) : ∃ t, mg "MOST_LETTERS" = some (.int 8 t) := T.int 86 _ _ rfl
theorem Tx.i_MOST_MEMBERS {K : PySem.W.Frag} {mg : Str → Option Value} (T : Tx K mg) : ∃ t, mg "MOST_MEMBERS" = some (.int 24 t) := T.int 87 _ _ rfl
theorem Tx.i_MOST_EXPONENT {K : PySem.W.Frag} {mg : Str → Option Value} (T : Tx K mg) : ∃ t, mg "MOST_EXPONENT" = some (.int 8 t) := T.int 88 _ _ rfl
end PLW
end
section
set_option Elab.async false
set_option linter.all false
set_option maxRecDepth 100000
set_option maxHeartbeats 0
namespace PySem
namespace TMX
abbrev ovB : List Value := [.type "OverflowError", .type "ArithmeticError", .type "Exception", .type "BaseException", .type "object"]
end TMX
end PySem
namespace PLW
open PySem PySem.Spec PyProof.Rows L2
open PySem.W
/-! the head: what is looked at, the run in two parts (early in the text: it takes much memory) -/
abbrev s_TooMany : Stmt := inClass (top 8) 0
def CL (K : PySem.W.Frag) : Addr := He.ga K "Lot"
def CK (K : PySem.W.Frag) : Addr := He.ga K "KeptMembers"
def aM (K : PySem.W.Frag) : Addr := match PySem.W.findIn K (.ref (CL K)) "members" with
  | some (some (.ref p)) => p
  | _ => 0
def gM (K : PySem.W.Frag) : Addr := match PySem.W.recIn K (aM K) "property" with
  | some (.ref g :: _) => g
  | _ => 0
def gE (K : PySem.W.Frag) : Addr := He.ma K (CL K) "__eq__"
def dRight : Str × Option Str := ("_law_right", none)
def dLike : Str × Option Str := ("_law_like_right", none)
def tfY : List (Str × Option Str) := [dRight, dLike]
def faY : List He.Fa := fal ++ [.glo "Lot", .glo "KeptMembers", .glo "TooMany", .free "super", .mkr "Lot", .mkr "KeptMembers"]
def fnY : List He.DefD := fnl ++ [d_Lot_init, d_KeptMembers_init, d_Lot_eq]
abbrev FnC : Type := Option (Str × Str × Arguments × FuncBody × Scope × Addr × List Str × Addr)
def fnC (K : Frag) (a : Addr) : FnC := match K.lookup a with
  | some ⟨_, _, .func fd, _⟩ => some (fd.name, fd.qualname, fd.params, fd.body, fd.scope, fd.globals, fd.closure.map (·.1), fd.builtins)
  | _ => none
def okAt (K : Frag) (a : Addr) (q : Str) : Bool := keepIn K (.ref a) && (match K.lookup a with
  | some ⟨_, _, .func fd, _⟩ => codeIn K fd.code q && (He.dflB K fd.defaults [] && He.kwdB K fd.kwdefaults [])
  | _ => false)
def CT (K : Frag) : Addr := He.ga K "TooMany"
def fT (K : Frag) : Addr := He.ma K (CT K) "__init__"
def ccA (K : Frag) : Addr := match K.lookup (fT K) with
  | some ⟨_, _, .func fd, _⟩ => (match fd.closure with
    | [(_, cc)] => cc
    | _ => 0)
  | _ => 0
def isNon (v : Value) : Bool := match v with
  | .none => true
  | _ => false
def fileB (K : Frag) (cda : Addr) : Bool := match K.lookup cda with
  | some ⟨_, _, .fields vs, _⟩ => (match (vs[2]? : Option Value) with
    | some (.str x _) => decide (x = "/claim/cut.py")
    | _ => false)
  | _ => false
def cellB (K : Frag) (cc C : Addr) : Bool := match K.lookup cc with
  | some ⟨_, _, .cell (some (.ref c)), _⟩ => decide (c = C)
  | _ => false
def initB (K : Frag) : Bool := match K.lookup (fT K) with
  | some ⟨_, _, .func fd, _⟩ => isNon fd.defaults && (isNon fd.kwdefaults && (match fd.closure with
    | [(_, cc)] => cellB K cc (CT K)
    | _ => false) && (match fd.code with
    | .ref cda => codeIn K (.ref cda) "TooMany.__init__" && fileB K cda
    | _ => false))
  | _ => false
def slA (K : Frag) (C : Addr) (f : Str) : Addr := match findIn K (.ref C) f with
  | some (some (.ref p)) => p
  | _ => 0
def sclsB (K : Frag) (C : Addr) : Bool := plainGet K C Str.empty && (isClsIn K C && (plainOver K C && He.eqO (findIn K (.ref C) "__setattr__") (some (some (.builtin "object.__setattr__")))))
def sisiB (K : Frag) (C : Addr) : Bool := He.eqO (findIn K (.ref C) "__class__") (some (some (.builtin "object.__class__"))) && (He.eqO (specialIn K (.builtin "object.__class__") "__get__") (some (some (.builtin "getset_descriptor.__get__"))) &&
  (decide (takesIn K (.builtin "object.__class__") = some true) && decide (mroIn K C (.type "object") = some true)))
def slotB (K : Frag) (C : Addr) (f : Str) (i : Nat) : Bool := He.eqO (findIn K (.ref C) f) (some (some (.ref (slA K C f)))) && (He.eqO (specialIn K (.ref (slA K C f)) "__get__") (some (some (.builtin "member_descriptor.__get__"))) &&
  (decide (takesIn K (.ref (slA K C f)) = some true) && (decide (typeIn K (.ref (slA K C f)) = some (.type "member_descriptor")) && (decide (slotIn K (slA K C f) C = some i) && decide (i < 1000)))))
def recB (K : Frag) : Bool := match recIn K (aM K) "property" with
  | some (.ref _ :: _) => true
  | _ => false
def exL (K : Frag) : List Bool := [
  sclsB K (CL K), sclsB K (CK K), sisiB K (CL K), sisiB K (CK K),
  slotB K (CL K) "own_letters" 0, slotB K (CL K) "own_members" 1, slotB K (CK K) "own_members" 0,
  decide (kitOne K (.ref (CL K)) (.ref (CL K)) = some true), decide (kitOne K (.ref (CK K)) (.ref (CK K)) = some true), decide (kitOne K (.type "tuple") (.ref (CK K)) = some false),
  He.eqO (findIn K (.ref (CL K)) "members") (some (some (.ref (aM K)))), He.eqO (specialIn K (.ref (aM K)) "__get__") (some (some (.builtin "property.__get__"))), decide (takesIn K (.ref (aM K)) = some true), recB K,
  okAt K (gM K) "Lot.members", He.eqO (findIn K (.ref (CL K)) "__eq__") (some (some (.ref (gE K)))), isFn K (.ref (gE K)), notFirst K (CL K) (.ref (CL K)),
  He.eqO (nsIn K mainGlobals "comb") (some (some (.builtin "math.comb"))),
  excInitIn K (CT K) PySem.TMX.ovB "OverflowError.__new__", excOver K (CT K) PySem.TMX.ovB,
  He.eqO (findIn K (.ref (CT K)) "__setattr__") (some (some (.builtin "object.__setattr__"))), He.eqO (findIn K (.ref (CT K)) "__getattribute__") (some (some (.builtin "BaseException.__getattribute__"))), He.eqO (findIn K (.ref (CT K)) "__getattr__") (some none),
  He.eqO (takerIn K (CT K) "most") (some none), He.eqO (findIn K (.ref (CT K)) "most") (some none), He.eqO (findIn K (.ref (CT K)) "__init__") (some (some (.ref (fT K)))), isFn K (.ref (fT K)), keepIn K (.ref (CT K)),
  decide (subIn K (.ref (CT K)) (.type "BaseException") = some true), decide (subIn K (.ref (CT K)) (.type "OverflowError") = some true), decide (typeIn K (.ref (CT K)) = some (.type "type")), hasDictIn K (CT K), decide (exmOne K (.ref (CT K)) (.ref (CT K)) = some true),
  He.eqO (ks_superIn K (CT K) (CT K) "__init__") (some (some (.builtin "OverflowError.__init__"))), He.eqO (nsIn K cStatics "thirdparty.any") (some none), decide (mroIn K (CT K) (.ref (CT K)) = some true), initB K,
  decide ((He.cT K dRight).2 ≠ (He.cT K dLike).2)]
def exB (K : Frag) : Bool := (exL K).all id
def cMem : FnC := some ("members", "Lot.members", defArgs s_Lot_members, .stmts (defBody s_Lot_members), defScope s_Lot_members, mainGlobals, [], builtinsNs)
def cTm : FnC := some ("__init__", "TooMany.__init__", defArgs s_TooMany, .stmts (defBody s_TooMany), defScope s_TooMany, mainGlobals, ["__class__"], builtinsNs)
abbrev AlY : Type := (He.AlD × FnC × FnC) × Bool
/-- what the objects at some addresses name, code objects' fields left out -/
def nxY (g : Addr → Option Obj) (as : List Addr) : List Addr := as.flatMap fun a => match g a with
  | some ⟨.type c, d, dt, sl⟩ => (match decide (c = "code") with
    | true => []
    | false => He.refsD ⟨.type c, d, dt, sl⟩)
  | some o => He.refsD o
  | none => []
def asY (g : Addr → Option Obj) : List Addr :=
  let l1 := nxY g [mainGlobals]
  let l2 := nxY g l1
  let l3 := nxY g l2
  let l4 := nxY g l3
  let l5 := nxY g l4
  mainGlobals :: cStatics :: (l1 ++ (l2 ++ (l3 ++ (l4 ++ l5))))
def obsY (g : Addr → Option Obj) : AlY := ((He.obsD faY fnY (He.frT g (asY g)), fnC (He.frT g (asY g)) (gM (He.frT g (asY g))), fnC (He.frT g (asY g)) (fT (He.frT g (asY g)))), exB (He.frT g (asY g)) && He.tabsB g tfY (He.frT g (asY g)))
def valY : AlY := ((He.valD fnY, cMem, cTm), true)
def nm0 : List PySem.Str := ["_wall", "__name__", "LadderError", "InvalidLot", "InvalidOperation", "ParseError", "InvalidNumber", "TooMany", "is_whole", "is_within", "require_within", "choices_of", "MAX_LETTERS", "MAX_EXPONENT", "is_product_in", "divides", "added_product", "require_letters", "MAX_MEMBER_EXPONENT", "MAX_MEMBERS", "MAX_PASSED", "MAX_POWER", "DIGITS", "BETWEEN", "least_of", "are_long", "few_least_of", "power_products", "letter_text", "product_text"]
def nm1 : List PySem.Str := ["lot_text", "power_in", "product_in", "members_in", "KeptMembers", "Lot", "is_passed_member", "members_told", "made_lot", "products_of_two", "is_all_in", "has_product", "require_same_letters", "require_lot", "most_common_letter", "split_exponent", "apart_numerator", "lessened", "numerator_of", "numerator_in", "left_count", "numerator", "MAX_DEGREE", "MOST_FIRST_LETTERS", "MOST_LETTERS", "MOST_MEMBERS", "MOST_EXPONENT", "products_in", "product_with", "climbed"]
def nm2 : List PySem.Str := ["greatest_top", "shares_of", "bound_of", "new_members", "first_members", "count_at", "meets", "is_met", "greatest_degree", "least_met", "met_from", "members_like", "first_lot_like", "is_first_lot", "_law_tub", "_law_pour", "_law_choice", "_law_binomial", "_law_many", "_law_listed", "_law_shares", "_law_bound", "_law_divides", "_law_has", "_law_least", "_law_numerator", "_law_left", "_law_members", "_law_is_met", "_law_from"]
def nm3 : List PySem.Str := ["_law_due", "_law_told", "_law_like_right", "_law_right"]
def nms : List PySem.Str := nm0 ++ nm1 ++ nm2 ++ nm3

abbrev R : PySem.W.OpenRow := PySem.W.OpenLaw.row PySem.Challenge.rw_pureladders_k20_whole_bounds_met_for_eve
abbrev qv : Program := PySem.W.view R.prog [0, 101]
def ob (s : PySem.W.SharedT) : AlY := obsY (HandSHeadRun.getT s)
theorem run_a (w : World) : ((HandSHeadRun.wholeF (fun p => HandSHeadRun.stepQ (HandSHeadRun.denQ HandSHeadRun.tabQ) p w) HandSHeadRun.fenceQ 40000 R.prog).map fun x => (HandSHeadRun.looksF R.prog x.1.heap x.2.abs, HandSHeadRun.seenQ qv nms (PySem.importedModules R.prog.main.body) (fun s => PySem.W.xlAt qv [] s && PySem.W.recOk R.toRowW.records s) x.2.abs)) = some (true, PySem.W.openGood qv nms) := by kernel_rfl
theorem run_b (w : World) : ((HandSHeadRun.wholeF (fun p => HandSHeadRun.stepQ (HandSHeadRun.denQ HandSHeadRun.tabQ) p w) HandSHeadRun.fenceQ 40000 R.prog).map fun x => ob x.2) = some valY := by kernel_rfl
end PLW
end
section
set_option Elab.async false
namespace PL
/-! numbers: T c = c(c-1)/2, Te j = j(j-1)(j-2)/6, the saw W -/
def T : Nat → Nat
  | 0 => 0
  | c + 1 => T c + c
def Te : Nat → Nat
  | 0 => 0
  | j + 1 => Te j + T j
theorem T_succ (c : Nat) : T (c + 1) = T c + c := rfl
theorem Te_succ (c : Nat) : Te (c + 1) = Te c + T c := rfl
theorem T_add (a b : Nat) : T (a + b) = T a + T b + a * b := by
  induction b with
  | zero => simp [T]
  | succ b ih => rw [← Nat.add_assoc, T_succ, T_succ, ih, Nat.mul_add]; omega
theorem T_mono {a b : Nat} (h : a ≤ b) : T a ≤ T b := by
  obtain ⟨c, rfl⟩ := Nat.le.dest h
  rw [T_add]; omega
theorem T_conv {a b t : Nat} (h : b ≤ a) : T a + T (b + t) ≤ T (a + t) + T b := by
  rw [T_add, T_add]
  have := Nat.mul_le_mul_right t h
  omega
theorem le_T (a : Nat) : a ≤ T (a + 1) := by rw [T_succ]; omega
def st : Nat → Nat × Nat
  | 0 => (0, 0)
  | x + 1 => if (st x).2 = (st x).1 then ((st x).1 + 1, 0) else ((st x).1, (st x).2 + 1)
def W (x : Nat) : Nat := Te ((st x).1 + 1) + T (st x).2
theorem st_spec (x : Nat) : x = T ((st x).1 + 1) + (st x).2 ∧ (st x).2 ≤ (st x).1 := by
  induction x with
  | zero => simp [st, T]
  | succ x ih =>
    obtain ⟨h1, h2⟩ := ih
    unfold st
    split
    · rename_i e
      simp only [T_succ] at *
      omega
    · simp only [T_succ] at *
      omega
theorem T_inj {j i k l : Nat} (h : T (j + 1) + i = T (k + 1) + l) (hi : i ≤ j) (hl : l ≤ k) : j = k ∧ i = l := by
  have key : ∀ {j i k l : Nat}, T (j + 1) + i = T (k + 1) + l → i ≤ j → ¬ j < k := by
    intro j i k l h hi hjk
    have := T_mono (show j + 2 ≤ k + 1 by omega)
    rw [T_succ (j + 1)] at this
    omega
  have a := key h hi
  have b := key h.symm hl
  have : j = k := by omega
  subst this
  omega
theorem split (x : Nat) : ∃ j i, x = T (j + 1) + i ∧ i ≤ j := ⟨_, _, (st_spec x).1, (st_spec x).2⟩
theorem W_at {j i : Nat} (h : i ≤ j + 1) : W (T (j + 1) + i) = Te (j + 1) + T i := by
  by_cases e : i = j + 1
  · subst e
    rw [show T (j + 1) + (j + 1) = T (j + 2) + 0 from rfl]
    obtain ⟨a, b⟩ := st_spec (T (j + 2) + 0)
    obtain ⟨c, d⟩ := T_inj a (Nat.zero_le _) b
    unfold W
    rw [← c, ← d]
    simp only [Te_succ, T]; omega
  · obtain ⟨a, b⟩ := st_spec (T (j + 1) + i)
    obtain ⟨c, d⟩ := T_inj a (by omega) b
    unfold W
    rw [← c, ← d]
theorem W_succ (x : Nat) : W x ≤ W (x + 1) := by
  obtain ⟨j, i, rfl, hi⟩ := split x
  rw [W_at (by omega), Nat.add_assoc, W_at (by omega)]
  have := T_mono (Nat.le_succ i)
  simp only [Nat.succ_eq_add_one] at this
  omega
theorem W_mono {x y : Nat} (h : x ≤ y) : W x ≤ W y := by
  obtain ⟨c, rfl⟩ := Nat.le.dest h
  induction c with
  | zero => exact Nat.le_refl _
  | succ c ih => exact Nat.le_trans (ih (by omega)) (W_succ _)
/-- the key: W (x + g) ≥ W x + min (T g) x -/
theorem W_key (x g : Nat) : W x + min (T g) x ≤ W (x + g) := by
  obtain ⟨j, i, rfl, hi⟩ := split x
  rw [W_at (by omega)]
  by_cases h1 : g ≤ j + 1 - i
  · rw [Nat.add_assoc (T (j + 1)) i g, W_at (j := j) (i := i + g) (by omega), T_add i g]
    omega
  · obtain ⟨b, hb⟩ : ∃ b, g = (j + 1 - i) + b := ⟨g - (j + 1 - i), by omega⟩
    have e : T (j + 1) + i + g = T (j + 2) + b := by rw [T_succ (j + 1)]; omega
    rw [e]
    by_cases h2 : b ≤ j + 2
    · rw [W_at (j := j + 1) (by omega), Te_succ (j + 1)]
      by_cases h3 : i + 1 ≤ b
      · have := T_mono h3
        rw [T_succ] at this
        omega
      · have := T_conv (a := i) (b := b) (t := j + 1 - i) (by omega)
        rw [show i + (j + 1 - i) = j + 1 by omega, show b + (j + 1 - i) = g by omega] at this
        omega
    · have h4 : W (T (j + 3) + 0) ≤ W (T (j + 2) + b) := W_mono (by rw [T_succ (j + 2)]; omega)
      rw [W_at (j := j + 2) (by omega), Te_succ (j + 2), Te_succ (j + 1)] at h4
      have h5 := T_mono hi
      have h6 : T (j + 2) = T (j + 1) + (j + 1) := rfl
      have h7 : T (j + 1) = T j + j := rfl
      have h8 : T 0 = 0 := rfl
      omega
/-! least places -/
def lst (V : Nat → Nat) (a : Nat) : Nat → Nat → Nat
  | 0, c => c
  | f + 1, c => if a ≤ V c then c else lst V a f (c + 1)
theorem lst_le {V : Nat → Nat} {a : Nat} : ∀ f c c', c ≤ c' → c' ≤ c + f → a ≤ V c' → lst V a f c ≤ c' ∧ a ≤ V (lst V a f c)
  | 0, c, c', h1, h2, h => by
    have : c' = c := by omega
    subst this
    exact ⟨Nat.le_refl _, h⟩
  | f + 1, c, c', h1, h2, h => by
    unfold lst
    by_cases e : a ≤ V c
    · rw [if_pos e]
      exact ⟨h1, e⟩
    · rw [if_neg e]
      have : c ≠ c' := fun z => e (z ▸ h)
      exact lst_le f (c + 1) c' (by omega) (by omega) h
def g3 (a : Nat) : Nat := lst T a (a + 1) 0
theorem g3_le (a : Nat) : a ≤ T (g3 a) := (lst_le (a + 1) 0 (a + 1) (by omega) (by omega) (le_T a)).2
theorem g3_min {a c : Nat} (h : a ≤ T c) : g3 a ≤ c := by
  by_cases e : c ≤ a + 1
  · exact (lst_le (a + 1) 0 c (by omega) (by omega) h).1
  · have := (lst_le (V := T) (a + 1) 0 (a + 1) (by omega) (by omega) (le_T a)).1
    exact Nat.le_trans this (by omega)
theorem g3_zero : g3 0 = 0 := rfl
theorem g3_lt {a c : Nat} (h : c < g3 a) : T c < a := by
  by_cases e : T c < a
  · exact e
  · have := g3_min (a := a) (c := c) (by omega)
    omega
theorem g3_mono {a b : Nat} (h : a ≤ b) : g3 a ≤ g3 b := g3_min (Nat.le_trans h (g3_le b))
theorem g3_two {a : Nat} (h : 0 < a) : 2 ≤ g3 a := by
  have := g3_le a
  by_cases e : 2 ≤ g3 a
  · exact e
  · have : g3 a = 0 ∨ g3 a = 1 := by omega
    rcases this with e | e <;> rw [e] at this <;> simp [T] at this <;> omega
theorem le_W (a : Nat) : a ≤ W (T (a + 3) + 0) := by
  rw [W_at (j := a + 2) (by omega), Te_succ, T_succ]
  have := le_T a
  have e := T_succ a
  have e1 := T_succ (a + 1)
  omega
def g4 (a : Nat) : Nat := lst W a (T (a + 3)) 0
theorem g4_le (a : Nat) : a ≤ W (g4 a) := (lst_le (T (a + 3)) 0 (T (a + 3)) (by omega) (by omega) (le_W a)).2
theorem g4_min {a c : Nat} (h : a ≤ W c) : g4 a ≤ c := by
  by_cases e : c ≤ T (a + 3)
  · exact (lst_le (T (a + 3)) 0 c (by omega) (by omega) h).1
  · have := (lst_le (V := W) (T (a + 3)) 0 (T (a + 3)) (by omega) (by omega) (le_W a)).1
    exact Nat.le_trans this (by omega)
theorem g4_lt {a c : Nat} (h : c < g4 a) : W c < a := by
  by_cases e : W c < a
  · exact e
  · have := g4_min (a := a) (c := c) (by omega)
    omega
theorem g4_mono {a b : Nat} (h : a ≤ b) : g4 a ≤ g4 b := g4_min (Nat.le_trans h (g4_le b))
def f2 (a : Nat) : Nat := if a = 0 then 0 else a + 1
def f3 (a : Nat) : Nat := a + g3 a
def f4 (a : Nat) : Nat := a + g4 a
/-! the growth in n letters -/
def F : Nat → Nat → Nat
  | 0, _ => 0
  | 1, a => a
  | 2, a => f2 a
  | 3, a => f3 a
  | _, a => f4 a
theorem f2_pos {a : Nat} (h : 0 < a) : f2 a = a + 1 := by unfold f2; rw [if_neg (by omega)]
theorem f2_zero : f2 0 = 0 := rfl
theorem f3_zero : f3 0 = 0 := rfl
theorem F_zero (n : Nat) : F n 0 = 0 := by
  match n with
  | 0 | 1 | 2 | 3 => rfl
  | n + 4 =>
    show f4 0 = 0
    unfold f4
    have := g4_min (a := 0) (c := 0) (Nat.zero_le _)
    omega
theorem F_mono (n : Nat) {a b : Nat} (h : a ≤ b) : F n a ≤ F n b := by
  match n with
  | 0 => exact Nat.le_refl _
  | 1 => exact h
  | 2 => show f2 a ≤ f2 b; unfold f2; split <;> split <;> omega
  | 3 => have := g3_mono h; show a + g3 a ≤ b + g3 b; omega
  | n + 4 => have := g4_mono h; show a + g4 a ≤ b + g4 b; omega
/-! rows of numbers from the front -/
def sm (a : Nat → Nat) : Nat → Nat
  | 0 => 0
  | m + 1 => a 0 + sm (fun k => a (k + 1)) m
def cost (f : Nat → Nat) (p : Nat) (a : Nat → Nat) : Nat → Nat
  | 0 => 0
  | m + 1 => (f (a 0) - p) + cost f (a 0) (fun k => a (k + 1)) m
def cost2 (f : Nat → Nat) (p : Nat) (a : Nat → Nat) : Nat → Nat
  | 0 => 0
  | m + 1 => (f (f (a 0)) - f p) + cost2 f (a 0) (fun k => a (k + 1)) m
theorem cost2_zero {f : Nat → Nat} (hf : ∀ {a b}, a ≤ b → f a ≤ f b) : ∀ m p a, cost f p a m = 0 → cost2 f p a m = 0
  | 0, _, _, _ => rfl
  | m + 1, p, a, h => by
    unfold cost at h
    have h1 : f (a 0) ≤ p := by omega
    have h2 := cost2_zero hf m (a 0) (fun k => a (k + 1)) (by omega)
    unfold cost2
    have := hf h1
    omega
/-! one letter more: the sum within what the cost allows -/
theorem n2 : ∀ m p a, 0 < sm a m → 0 < p + cost (F 1) p a m
  | 0, _, _, h => by simp [sm] at h
  | m + 1, p, a, h => by
    unfold sm at h
    unfold cost
    show 0 < p + ((a 0 - p) + cost (F 1) (a 0) (fun k => a (k + 1)) m)
    by_cases e : 0 < a 0
    · omega
    · have := n2 m (a 0) (fun k => a (k + 1)) (by omega)
      omega
theorem n3 : ∀ m p a, sm a m ≤ T (p + cost f2 p a m)
  | 0, _, _ => Nat.zero_le _
  | m + 1, p, a => by
    have ih := n3 m (a 0) (fun k => a (k + 1))
    unfold sm cost
    generalize cost f2 (a 0) (fun k => a (k + 1)) m = c at *
    generalize sm (fun k => a (k + 1)) m = r at *
    by_cases e : a 0 = 0
    · rw [e] at ih ⊢
      have := T_mono (show 0 + c ≤ p + (f2 0 - p + c) by omega)
      omega
    · rw [f2_pos (by omega)]
      have h1 := T_mono (show (a 0 + c) + 1 ≤ p + (a 0 + 1 - p + c) by omega)
      rw [T_succ] at h1
      omega
theorem n4 : ∀ m p a, sm a m ≤ W (p + cost f3 p a m)
  | 0, _, _ => Nat.zero_le _
  | m + 1, p, a => by
    have ih := n4 m (a 0) (fun k => a (k + 1))
    unfold sm cost
    generalize cost f3 (a 0) (fun k => a (k + 1)) m = c at *
    generalize sm (fun k => a (k + 1)) m = r at *
    have h1 := W_key (a 0 + c) (g3 (a 0))
    have h2 := g3_le (a 0)
    have h3 : W (a 0 + c + g3 (a 0)) ≤ W (p + (f3 (a 0) - p + c)) := W_mono (by unfold f3; omega)
    omega
theorem N1 (n : Nat) (hn : n < 4) (a : Nat → Nat) (m : Nat) : F (n + 1) (sm a m) ≤ sm a m + cost (F n) 0 a m := by
  match n, hn with
  | 0, _ => exact Nat.le_add_right _ _
  | 1, _ =>
    show f2 (sm a m) ≤ _
    have := n2 m 0 a
    unfold f2
    split <;> omega
  | 2, _ =>
    have h := n3 m 0 a
    rw [Nat.zero_add] at h
    exact Nat.add_le_add_left (g3_min h) _
  | 3, _ =>
    have h := n4 m 0 a
    rw [Nat.zero_add] at h
    exact Nat.add_le_add_left (g4_min h) _
end PL
end
section
set_option Elab.async false
namespace PL
theorem T_pred {g : Nat} (h : 0 < g) : T g = T (g - 1) + (g - 1) := by
  obtain ⟨k, rfl⟩ : ∃ k, g = k + 1 := ⟨g - 1, by omega⟩
  rfl
theorem g3_f3 {q : Nat} (h : 0 < q) : g3 (q + g3 q) = g3 q + 1 := by
  have h2 := g3_two h
  have h3 := g3_le q
  have h4 := g3_lt (a := q) (c := g3 q - 1) (by omega)
  have h5 := T_pred (g := g3 q) (by omega)
  have up : g3 (q + g3 q) ≤ g3 q + 1 := g3_min (by rw [T_succ]; omega)
  have lo : ¬ g3 (q + g3 q) ≤ g3 q := fun z => by
    have h6 := g3_le (q + g3 q)
    have h7 := T_mono z
    omega
  omega
theorem P1 {q s : Nat} (h : 0 < q) (hs : q + g3 q ≤ s) : g3 q + 1 ≤ g3 (s - 1) := by
  have h2 := g3_two h
  have h4 := g3_lt (a := q) (c := g3 q - 1) (by omega)
  have h5 := T_pred (g := g3 q) (by omega)
  have lo : ¬ g3 (s - 1) ≤ g3 q := fun z => by
    have h6 := g3_le (s - 1)
    have h7 := T_mono z
    omega
  omega
theorem P2 {q s : Nat} (h : 0 < q) (hs : q + 1 ≤ s) (hw : W (s + g3 q - 1) < q + W s) : g3 (s - 1) + 1 ≤ g3 (s + g3 q - 1) := by
  have h2 := g3_two h
  have h3 := g3_le q
  have h5 := T_pred (g := g3 q) (by omega)
  have k2 := g3_two (a := s - 1) (by omega)
  have kl := g3_lt (a := s - 1) (c := g3 (s - 1) - 1) (by omega)
  refine Decidable.byContradiction fun z => ?_
  have z1 : s + g3 q - 1 ≤ T (g3 (s - 1)) := Nat.le_trans (g3_le _) (T_mono (by omega))
  generalize g3 q = g at *
  generalize g3 (s - 1) = k at *
  have e1 := T_pred (g := k) (by omega)
  obtain ⟨j, rfl⟩ : ∃ j, k = j + 2 := ⟨k - 2, by omega⟩
  rw [show j + 2 - 1 = j + 1 by omega] at kl e1
  obtain ⟨i, rfl⟩ : ∃ i, s = T (j + 1) + i := ⟨s - T (j + 1), by omega⟩
  have e3 : T (j + 1) + i + g - 1 = T (j + 1) + (i + (g - 1)) := by omega
  rw [e3, W_at (by omega), W_at (by omega), T_add] at hw
  have e4 : 1 * (g - 1) ≤ i * (g - 1) := Nat.mul_le_mul_right _ (by omega)
  omega
theorem P3 (x : Nat) : W (x + g3 x) ≤ W x + x := by
  obtain ⟨j, i, rfl, hi⟩ := split x
  by_cases e : i = 0
  · subst e
    have h1 : g3 (T (j + 1) + 0) ≤ j + 1 := g3_min (Nat.le_refl _)
    have h2 : W (T (j + 1) + 0 + g3 (T (j + 1) + 0)) ≤ W (T (j + 2) + 0) := W_mono (by rw [T_succ (j + 1)]; omega)
    rw [W_at (j := j + 1) (by omega), Te_succ] at h2
    rw [W_at (j := j) (by omega)]
    omega
  · have h1 : g3 (T (j + 1) + i) ≤ j + 2 := g3_min (by rw [T_succ (j + 1)]; omega)
    have h2 : W (T (j + 1) + i + g3 (T (j + 1) + i)) ≤ W (T (j + 2) + (i + 1)) := W_mono (by rw [T_succ (j + 1)]; omega)
    rw [W_at (j := j + 1) (by omega), Te_succ, T_succ i] at h2
    rw [W_at (j := j) (by omega)]
    omega
theorem m3 : ∀ m p a, T (p + cost f2 p a m - 1) < sm a m → cost2 f2 p a m ≤ cost f2 p a m + (if p = 0 then 1 else 0)
  | 0, _, _, h => by simp [sm] at h
  | m + 1, p, a, h => by
    have ih := m3 m (a 0) (fun k => a (k + 1))
    have hb := n3 m (a 0) (fun k => a (k + 1))
    have hz := cost2_zero (f := f2) (fun {a b} h => F_mono 2 h) m (a 0) (fun k => a (k + 1))
    unfold sm cost at h
    unfold cost cost2
    generalize cost f2 (a 0) (fun k => a (k + 1)) m = c at *
    generalize cost2 f2 (a 0) (fun k => a (k + 1)) m = c2 at *
    generalize sm (fun k => a (k + 1)) m = r at *
    generalize a 0 = q at *
    by_cases e : q = 0
    · subst e
      simp only [f2_zero, Nat.zero_sub, Nat.zero_add] at *
      by_cases ep : p = 0
      · subst ep
        simp only [Nat.zero_add, if_true] at *
        exact ih h
      · have := T_mono (show c ≤ p + c - 1 by omega)
        omega
    · rw [f2_pos (show 0 < q by omega), f2_pos (show 0 < q + 1 by omega)] at *
      rw [if_neg e] at ih
      have h1 : p ≤ q + 1 := Decidable.byContradiction fun z => by
        have h2 := T_mono (show q + c + 1 ≤ p + (q + 1 - p + c) - 1 by omega)
        rw [T_succ] at h2
        omega
      have h2 : p + (q + 1 - p + c) - 1 = q + c := by omega
      rw [h2] at h
      have h3 : c2 ≤ c := by
        by_cases ec : c = 0
        · have := hz ec
          omega
        · have h4 := T_pred (g := q + c) (by omega)
          have := ih (by omega)
          omega
      by_cases ep : p = 0
      · subst ep
        rw [if_pos rfl, f2_zero]
        omega
      · rw [if_neg ep, f2_pos (by omega)]
        omega
theorem m4 : ∀ m p a, W (p + cost f3 p a m - 1) < sm a m → cost2 f3 p a m ≤ cost f3 p a m + (g3 (p + cost f3 p a m - 1) - g3 p)
  | 0, _, _, h => by simp [sm] at h
  | m + 1, p, a, h => by
    have ih := m4 m (a 0) (fun k => a (k + 1))
    have hb := n4 m (a 0) (fun k => a (k + 1))
    have hz := cost2_zero (f := f3) (fun {a b} h => F_mono 3 h) m (a 0) (fun k => a (k + 1))
    unfold sm cost at h
    unfold cost cost2
    generalize cost f3 (a 0) (fun k => a (k + 1)) m = c at *
    generalize cost2 f3 (a 0) (fun k => a (k + 1)) m = c2 at *
    generalize sm (fun k => a (k + 1)) m = r at *
    generalize a 0 = q at *
    by_cases e : q = 0
    · subst e
      simp only [f3_zero, Nat.zero_sub, Nat.zero_add] at *
      by_cases ep : p = 0
      · subst ep
        simp only [Nat.zero_add] at *
        exact ih h
      · have := W_mono (show c ≤ p + c - 1 by omega)
        omega
    · have q0 : 0 < q := by omega
      have t2 := g3_two q0
      have t3 := g3_le q
      have ef : f3 (f3 q) = q + g3 q + (g3 q + 1) := by
        unfold f3
        rw [g3_f3 q0]
      have hf : f3 q = q + g3 q := rfl
      have hp : f3 p = p + g3 p := rfl
      rw [ef, hf, hp]
      rw [hf] at h
      have hs : p + (q + g3 q - p + c) = q + c + g3 q := Decidable.byContradiction fun z => by
        have h2 := W_mono (show q + c + g3 q ≤ p + (q + g3 q - p + c) - 1 by omega)
        have h3 := W_key (q + c) (g3 q)
        omega
      rw [hs] at h ⊢
      have hpq : p ≤ q + g3 q := by omega
      have hgp : g3 p ≤ g3 q + 1 := by
        have h2 := g3_mono hpq
        rw [g3_f3 q0] at h2
        exact h2
      have hP1 := P1 (q := q) (s := q + c + g3 q) q0 (by omega)
      by_cases ec : c = 0
      · have := hz ec
        omega
      · have h3 := W_key (q + c - 1) (g3 q)
        have e4 : q + c - 1 + g3 q = q + c + g3 q - 1 := by omega
        rw [e4] at h3
        have h4 := ih (by omega)
        have h5 := P2 (q := q) (s := q + c) q0 (by omega) (by omega)
        have h6 := g3_mono (show q ≤ q + c - 1 by omega)
        omega
theorem cost2_id : ∀ m p a, cost2 (F 1) p a m = cost (F 1) p a m
  | 0, _, _ => rfl
  | m + 1, p, a => by
    unfold cost cost2
    rw [cost2_id m (a 0) (fun k => a (k + 1))]
    rfl
theorem cost_nil : ∀ m p a, cost (F 0) p a m = 0
  | 0, _, _ => rfl
  | m + 1, p, a => by
    unfold cost
    rw [cost_nil m (a 0) (fun k => a (k + 1))]
    show 0 - p + 0 = 0
    omega
/-- one letter more: least growth goes on -/
theorem N2 (n : Nat) (hn : n < 4) (a : Nat → Nat) (m : Nat) (h : sm a m + cost (F n) 0 a m = F (n + 1) (sm a m)) : F (n + 1) (sm a m) + cost2 (F n) 0 a m ≤ F (n + 1) (F (n + 1) (sm a m)) := by
  by_cases ez : sm a m = 0
  · have h0 : cost (F n) 0 a m = 0 := by
      rw [ez, F_zero] at h
      omega
    have h1 := cost2_zero (f := F n) (fun {a b} h => F_mono n h) m 0 a h0
    rw [h1, ez, F_zero, F_zero]
    omega
  match n, hn with
  | 0, _ =>
    have h1 := cost2_zero (f := F 0) (fun {a b} h => F_mono 0 h) m 0 a (cost_nil m 0 a)
    rw [h1]
    exact Nat.le_refl _
  | 1, _ =>
    rw [cost2_id]
    have h1 : sm a m + cost (F 1) 0 a m = f2 (sm a m) := h
    rw [f2_pos (by omega)] at h1
    show f2 (sm a m) + cost (F 1) 0 a m ≤ f2 (f2 (sm a m))
    rw [f2_pos (show 0 < sm a m by omega), f2_pos (show 0 < sm a m + 1 by omega)]
    omega
  | 2, _ =>
    have h1 : sm a m + cost f2 0 a m = sm a m + g3 (sm a m) := h
    have h2 : cost f2 0 a m = g3 (sm a m) := by omega
    have t2 := g3_two (a := sm a m) (by omega)
    have h3 := m3 m 0 a (by rw [h2, Nat.zero_add]; exact g3_lt (by omega))
    rw [if_pos rfl, h2] at h3
    show f3 (sm a m) + cost2 f2 0 a m ≤ f3 (f3 (sm a m))
    unfold f3
    rw [g3_f3 (by omega)]
    omega
  | 3, _ =>
    have h1 : sm a m + cost f3 0 a m = sm a m + g4 (sm a m) := h
    have h2 : cost f3 0 a m = g4 (sm a m) := by omega
    have c0 : 0 < g4 (sm a m) := Decidable.byContradiction fun z => by
      have h3 := g4_le (sm a m)
      rw [show g4 (sm a m) = 0 by omega, show W 0 = 0 from rfl] at h3
      omega
    have lo := g4_lt (a := sm a m) (c := g4 (sm a m) - 1) (by omega)
    have h3 := m4 m 0 a (by rw [h2, Nat.zero_add]; exact lo)
    rw [h2, Nat.zero_add, g3_zero] at h3
    show f4 (sm a m) + cost2 f3 0 a m ≤ f4 (f4 (sm a m))
    unfold f4
    generalize g4 (sm a m) = c at *
    refine Nat.add_le_add_left (Decidable.byContradiction fun z => ?_) _
    have h5 := g4_le (sm a m + c)
    have h6 := W_mono (show g4 (sm a m + c) ≤ c - 1 + g3 (c - 1) by omega)
    have h7 := P3 (c - 1)
    omega
end PL
end
section
set_option Elab.async false
namespace PL
theorem sm_le {a b : Nat → Nat} : ∀ m, (∀ k, k < m → a k ≤ b k) → sm a m ≤ sm b m
  | 0, _ => Nat.le_refl _
  | m + 1, h => by
    unfold sm
    have h1 := sm_le (a := fun k => a (k + 1)) (b := fun k => b (k + 1)) m (fun k hk => h (k + 1) (by omega))
    have h2 := h 0 (by omega)
    omega
theorem sm_congr {a b : Nat → Nat} (m : Nat) (h : ∀ k, k < m → a k = b k) : sm a m = sm b m :=
  Nat.le_antisymm (sm_le m fun k hk => Nat.le_of_eq (h k hk)) (sm_le m fun k hk => Nat.le_of_eq (h k hk).symm)
theorem sm_add {a b : Nat → Nat} : ∀ m, sm (fun k => a k + b k) m = sm a m + sm b m
  | 0 => rfl
  | m + 1 => by
    have h1 := sm_add (a := fun k => a (k + 1)) (b := fun k => b (k + 1)) m
    unfold sm
    omega
theorem sm_last {a : Nat → Nat} : ∀ m, sm a (m + 1) = sm a m + a m
  | 0 => by simp [sm]
  | m + 1 => by
    have h1 := sm_last (a := fun k => a (k + 1)) m
    have e : sm a (m + 1 + 1) = a 0 + sm (fun k => a (k + 1)) (m + 1) := rfl
    have e2 : sm a (m + 1) = a 0 + sm (fun k => a (k + 1)) m := rfl
    rw [e, h1, e2]
    omega
/-- equal sums of numbers that are at most others: equal one by one -/
theorem sm_eq {a b : Nat → Nat} : ∀ m, (∀ k, k < m → a k ≤ b k) → sm b m ≤ sm a m → ∀ k, k < m → a k = b k
  | 0, _, _ => fun k hk => absurd hk (by omega)
  | m + 1, h, e => by
    have h0 := h 0 (by omega)
    have h1 := sm_le (a := fun k => a (k + 1)) (b := fun k => b (k + 1)) m (fun k hk => h (k + 1) (by omega))
    unfold sm at e
    have ih := sm_eq (a := fun k => a (k + 1)) (b := fun k => b (k + 1)) m (fun k hk => h (k + 1) (by omega)) (by omega)
    intro k hk
    cases k with
    | zero => omega
    | succ k => exact ih k (by omega)
/-! sets of words: a Bool on the exponents -/
abbrev WS := List Nat → Bool
/-- how many words of n letters, of degree d -/
def cnt : Nat → Nat → WS → Nat
  | 0, d, A => if d = 0 then (if A [] = true then 1 else 0) else 0
  | n + 1, d, A => sm (fun k => cnt n (d - k) (fun m => A (k :: m))) (d + 1)
def ahead (A : WS) : Nat → WS
  | 0, _ => false
  | j + 1, m => A (j :: m)
/-- the multiples by one letter -/
def up : WS → WS
  | _, [] => false
  | A, k :: m => ahead A k m || up (fun t => A (k :: t)) m
theorem up_cons (A : WS) (k : Nat) (m : List Nat) : up A (k :: m) = (ahead A k m || up (fun t => A (k :: t)) m) := by
  rw [up]
theorem cnt_le : ∀ n d (A B : WS), (∀ m, m.length = n → m.sum = d → A m = true → B m = true) → cnt n d A ≤ cnt n d B
  | 0, d, A, B, h => by
    unfold cnt
    by_cases e : d = 0
    · rw [if_pos e, if_pos e]
      by_cases q : A [] = true
      · rw [if_pos q, if_pos (h [] rfl (by simp [e]) q)]
        exact Nat.le_refl _
      · rw [if_neg q]
        exact Nat.zero_le _
    · rw [if_neg e, if_neg e]
      exact Nat.le_refl _
  | n + 1, d, A, B, h => by
    unfold cnt
    refine sm_le _ fun k hk => cnt_le n (d - k) _ _ fun m hl hs hm => h (k :: m) (by simp [hl]) (by simp [hs]; omega) hm
theorem cnt_congr (n d : Nat) (A B : WS) (h : ∀ m, m.length = n → m.sum = d → A m = B m) : cnt n d A = cnt n d B :=
  Nat.le_antisymm (cnt_le n d A B fun m a b c => h m a b ▸ c) (cnt_le n d B A fun m a b c => (h m a b).symm ▸ c)
/-- one set within another, not fewer: the same -/
theorem cnt_same : ∀ n d (A B : WS), (∀ m, m.length = n → m.sum = d → A m = true → B m = true) → cnt n d B ≤ cnt n d A → ∀ m, m.length = n → m.sum = d → B m = true → A m = true
  | 0, d, A, B, h, e, m, hl, hs, hm => by
    have hm0 : m = [] := List.length_eq_zero_iff.mp hl
    subst hm0
    have hd : d = 0 := by simpa using hs.symm
    unfold cnt at e
    rw [if_pos hd, if_pos hd, if_pos hm] at e
    by_cases q : A [] = true
    · exact q
    · rw [if_neg q] at e
      omega
  | n + 1, d, A, B, h, e, m, hl, hs, hm => by
    obtain ⟨k, t, rfl⟩ : ∃ k t, m = k :: t := by
      cases m with
      | nil => simp at hl
      | cons k t => exact ⟨k, t, rfl⟩
    have hk : k < d + 1 := by simp at hs; omega
    have hsub : ∀ k, k < d + 1 → ∀ m, m.length = n → m.sum = d - k → A (k :: m) = true → B (k :: m) = true := fun k hk m hl hs hm => h (k :: m) (by simp [hl]) (by simp [hs]; omega) hm
    unfold cnt at e
    have key := sm_eq (d + 1) (fun k hk => cnt_le n (d - k) (fun m => A (k :: m)) (fun m => B (k :: m)) (hsub k hk)) e k hk
    exact cnt_same n (d - k) (fun m => A (k :: m)) (fun m => B (k :: m)) (hsub k hk) (Nat.le_of_eq key.symm) t (by simpa using hl) (by simp at hs; omega) hm
theorem cnt_or : ∀ n d (A B : WS), cnt n d (fun m => A m || B m) + cnt n d (fun m => A m && B m) = cnt n d A + cnt n d B
  | 0, d, A, B => by
    unfold cnt
    by_cases e : d = 0
    · have key : ∀ x y : Bool, ((if (x || y) = true then 1 else 0) + if (x && y) = true then 1 else 0) = (if x = true then 1 else 0) + if y = true then 1 else 0 := by decide
      simp only [e, if_true]
      exact key _ _
    · simp only [e, if_false]
  | n + 1, d, A, B => by
    unfold cnt
    rw [← sm_add, ← sm_add]
    exact sm_congr _ fun k _ => cnt_or n (d - k) (fun m => A (k :: m)) (fun m => B (k :: m))
theorem up_ex : ∀ (m : List Nat) (A : WS), up A m = true → ∃ t, t.length = m.length ∧ t.sum + 1 = m.sum ∧ A t = true
  | [], A, h => by simp [up] at h
  | k :: m, A, h => by
    rw [up_cons, Bool.or_eq_true] at h
    rcases h with h | h
    · cases k with
      | zero => simp [ahead] at h
      | succ j => exact ⟨j :: m, by simp, by simp; omega, h⟩
    · obtain ⟨t, h1, h2, h3⟩ := up_ex m _ h
      exact ⟨k :: t, by simp [h1], by simp; omega, h3⟩
theorem up_le : ∀ (m : List Nat) (A B : WS), (∀ t, t.length = m.length → t.sum + 1 = m.sum → A t = true → B t = true) → up A m = true → up B m = true
  | [], A, B, _, h => by simp [up] at h
  | k :: m, A, B, hab, h => by
    rw [up_cons, Bool.or_eq_true] at h ⊢
    rcases h with h | h
    · left
      cases k with
      | zero => simp [ahead] at h
      | succ j => exact hab (j :: m) (by simp) (by simp; omega) h
    · right
      exact up_le m _ _ (fun t h1 h2 h3 => hab (k :: t) (by simp [h1]) (by simp; omega) h3) h
theorem up_or : ∀ (m : List Nat) (A B : WS), up (fun t => A t || B t) m = (up A m || up B m)
  | [], _, _ => by simp [up]
  | k :: m, A, B => by
    rw [up_cons, up_cons, up_cons, up_or m]
    cases k with
    | zero => simp [ahead]
    | succ j =>
      simp only [ahead]
      generalize up (fun t => A ((j + 1) :: t)) m = x
      generalize up (fun t => B ((j + 1) :: t)) m = y
      cases A (j :: m) <;> cases B (j :: m) <;> cases x <;> cases y <;> rfl
/-! chains -/
def prev (p : Nat) (a : Nat → Nat) : Nat → Nat
  | 0 => p
  | k + 1 => a k
theorem chain1 (f : Nat → Nat) : ∀ m p (a b : Nat → Nat), (∀ k, k ≤ m → prev p a k ≤ b k) → (∀ k, k < m → f (a k) ≤ b k) → p + sm a m + cost f p a m ≤ sm b (m + 1)
  | 0, p, a, b, h1, _ => by
    have := h1 0 (by omega)
    simp only [prev] at this
    simp only [sm, cost]
    omega
  | m + 1, p, a, b, h1, h2 => by
    have ih := chain1 f m (a 0) (fun k => a (k + 1)) (fun k => b (k + 1)) (fun k hk => by
      have := h1 (k + 1) (by omega)
      cases k with
      | zero => exact this
      | succ k => exact this) (fun k hk => h2 (k + 1) (by omega))
    have h3 := h1 0 (by omega)
    have h4 := h2 0 (by omega)
    simp only [prev] at h3
    have e : sm b (m + 1 + 1) = b 0 + sm (fun k => b (k + 1)) (m + 1) := rfl
    have e2 : sm a (m + 1) = a 0 + sm (fun k => a (k + 1)) m := rfl
    have e3 : cost f p a (m + 1) = (f (a 0) - p) + cost f (a 0) (fun k => a (k + 1)) m := rfl
    rw [e, e2, e3]
    omega
theorem chain2 (f : Nat → Nat) : ∀ m p (a b : Nat → Nat), (∀ k, k ≤ m → prev p a k ≤ b k) → (∀ k, k < m → f (a k) ≤ b k) → sm b (m + 1) ≤ p + sm a m + cost f p a m → ∀ k, k < m → b k = prev p a k + (f (a k) - prev p a k)
  | 0, _, _, _, _, _, _ => fun k hk => absurd hk (by omega)
  | m + 1, p, a, b, h1, h2, h => by
    have g1 : ∀ k, k ≤ m → prev (a 0) (fun k => a (k + 1)) k ≤ b (k + 1) := fun k hk => by
      have := h1 (k + 1) (by omega)
      cases k with
      | zero => exact this
      | succ k => exact this
    have g2 : ∀ k, k < m → f (a (k + 1)) ≤ b (k + 1) := fun k hk => h2 (k + 1) (by omega)
    have le := chain1 f m (a 0) (fun k => a (k + 1)) (fun k => b (k + 1)) g1 g2
    have h3 := h1 0 (by omega)
    have h4 := h2 0 (by omega)
    simp only [prev] at h3
    have e : sm b (m + 1 + 1) = b 0 + sm (fun k => b (k + 1)) (m + 1) := rfl
    rw [e] at h
    have e2 : sm a (m + 1) = a 0 + sm (fun k => a (k + 1)) m := rfl
    have e3 : cost f p a (m + 1) = (f (a 0) - p) + cost f (a 0) (fun k => a (k + 1)) m := rfl
    rw [e2, e3] at h
    have ih := chain2 f m (a 0) (fun k => a (k + 1)) (fun k => b (k + 1)) g1 g2 (by omega)
    intro k hk
    cases k with
    | zero => simp only [prev]; omega
    | succ k =>
      have := ih k (by omega)
      cases k with
      | zero => exact this
      | succ k => exact this
theorem chain3 (f : Nat → Nat) : ∀ m p q (a b e : Nat → Nat), (∀ k, k < m → e k ≤ prev q b k + (f (f (a k)) - f (prev p a k))) → e m ≤ prev q b m → e (m + 1) ≤ prev q b (m + 1) → sm e (m + 2) ≤ q + sm b (m + 1) + cost2 f p a m
  | 0, p, q, a, b, e, _, h1, h2 => by
    simp only [prev] at h1 h2
    simp only [sm, cost2]
    omega
  | m + 1, p, q, a, b, e, h, h1, h2 => by
    have ih := chain3 f m (a 0) (b 0) (fun k => a (k + 1)) (fun k => b (k + 1)) (fun k => e (k + 1)) (fun k hk => by
      have := h (k + 1) (by omega)
      cases k with
      | zero => exact this
      | succ k => exact this) (by cases m with
      | zero => exact h1
      | succ m => exact h1) h2
    have h0 := h 0 (by omega)
    simp only [prev] at h0
    have e1 : sm e (m + 1 + 2) = e 0 + sm (fun k => e (k + 1)) (m + 2) := rfl
    have e2 : sm b (m + 1 + 1) = b 0 + sm (fun k => b (k + 1)) (m + 1) := rfl
    have e3 : cost2 f p a (m + 1) = (f (f (a 0)) - f p) + cost2 f (a 0) (fun k => a (k + 1)) m := rfl
    rw [e1, e2, e3]
    omega
/-! Macaulay's bound, from below: the multiples are at least so many -/
def slA (A : WS) (n d : Nat) : Nat → Nat := fun k => cnt n (d - k) (fun m => A (k :: m))
theorem cnt_succ (A : WS) (n d : Nat) : cnt (n + 1) d A = sm (slA A n d) (d + 1) := rfl
theorem sl_prev (A : WS) (n d k : Nat) (hk : k ≤ d + 1) : prev 0 (slA A n d) k = cnt n (d + 1 - k) (ahead A k) ∨ (k = 0 ∧ prev 0 (slA A n d) k = 0) := by
  cases k with
  | zero => exact .inr ⟨rfl, rfl⟩
  | succ j =>
    left
    show cnt n (d - j) (fun m => A (j :: m)) = cnt n (d + 1 - (j + 1)) (ahead A (j + 1))
    rw [show d + 1 - (j + 1) = d - j by omega]
    rfl
theorem sl_b1 (A : WS) (n d k : Nat) (hk : k ≤ d + 1) : prev 0 (slA A n d) k ≤ slA (up A) n (d + 1) k := by
  rcases sl_prev A n d k hk with h | ⟨_, h⟩
  · rw [h]
    exact cnt_le _ _ _ _ fun m _ _ hm => by
      show up A (k :: m) = true
      rw [up_cons, hm]
      rfl
  · rw [h]
    exact Nat.zero_le _
theorem sl_b2 (A : WS) (n d k : Nat) (hk : k ≤ d) : cnt n (d - k + 1) (up fun t => A (k :: t)) ≤ slA (up A) n (d + 1) k := by
  unfold slA
  rw [show d - k + 1 = d + 1 - k by omega]
  exact cnt_le _ _ _ _ fun m _ _ hm => by
    show up A (k :: m) = true
    rw [up_cons, hm, Bool.or_true]
theorem mac : ∀ n, n ≤ 4 → ∀ d (A : WS), F n (cnt n d A) ≤ cnt n (d + 1) (up A)
  | 0, _, d, A => Nat.zero_le _
  | n + 1, hn, d, A => by
    rw [cnt_succ, cnt_succ]
    have h1 := N1 n (by omega) (slA A n d) (d + 1)
    have h2 := chain1 (F n) (d + 1) 0 (slA A n d) (slA (up A) n (d + 1)) (fun k hk => sl_b1 A n d k hk) (fun k hk => Nat.le_trans (mac n (by omega) (d - k) _) (sl_b2 A n d k (by omega)))
    omega
/-! least growth goes on -/
theorem upup_cons (A : WS) (k : Nat) (m : List Nat) (h : up (up A) (k :: m) = true) : ahead (up A) k m = true ∨ up (up fun t => A (k :: t)) m = true := by
  rw [up_cons, Bool.or_eq_true] at h
  rcases h with h | h
  · exact .inl h
  · have e : (fun t => up A (k :: t)) = fun t => ahead A k t || up (fun t => A (k :: t)) t := funext fun t => up_cons A k t
    rw [e, up_or, Bool.or_eq_true] at h
    rcases h with h | h
    · left
      cases k with
      | zero =>
        obtain ⟨t, _, _, z⟩ := up_ex m _ h
        simp [ahead] at z
      | succ j =>
        show up A (j :: m) = true
        rw [up_cons]
        have h2 : up (fun t => A (j :: t)) m = true := h
        rw [h2, Bool.or_true]
    · exact .inr h
theorem up_ahead (A : WS) (k : Nat) (m : List Nat) (h : up (ahead A k) m = true) : ahead (up A) k m = true := by
  cases k with
  | zero =>
    obtain ⟨t, _, _, z⟩ := up_ex m _ h
    simp [ahead] at z
  | succ j =>
    show up A (j :: m) = true
    rw [up_cons]
    have h2 : up (fun t => A (j :: t)) m = true := h
    rw [h2, Bool.or_true]
theorem sl_e (A : WS) (n d k : Nat) (hk : k ≤ d + 2) : prev 0 (slA (up A) n (d + 1)) k = cnt n (d + 2 - k) (ahead (up A) k) := by
  rcases sl_prev (up A) n (d + 1) k hk with h | ⟨h0, h⟩
  · exact h
  · rw [h]
    subst h0
    have : cnt n (d + 2 - 0) (ahead (up A) 0) ≤ cnt n (d + 2 - 0) (fun _ => false) := cnt_le _ _ _ _ fun m _ _ z => by simp [ahead] at z
    have z : ∀ n d, cnt n d (fun _ => false) = 0 := fun n => by
      induction n with
      | zero => intro d; simp [cnt]
      | succ n ih =>
        intro d
        unfold cnt
        have : ∀ m (a : Nat → Nat), (∀ k, a k = 0) → sm a m = 0 := fun m => by
          induction m with
          | zero => intro _ _; rfl
          | succ m ih2 => intro a ha; unfold sm; rw [ha 0, ih2 _ fun k => ha (k + 1)]
        exact this _ _ fun k => ih _
    have := z n (d + 2 - 0)
    omega
theorem got : ∀ n, n ≤ 4 → ∀ d (A : WS), cnt n (d + 1) (up A) = F n (cnt n d A) → cnt n (d + 2) (up (up A)) ≤ F n (F n (cnt n d A))
  | 0, _, d, A, _ => by
    show cnt 0 (d + 2) (up (up A)) ≤ 0
    simp [cnt]
  | n + 1, hn, d, A, h => by
    rw [cnt_succ] at h
    have hm := mac n (by omega)
    have c1 : ∀ k, k ≤ d + 1 → prev 0 (slA A n d) k ≤ slA (up A) n (d + 1) k := fun k hk => sl_b1 A n d k hk
    have c2 : ∀ k, k < d + 1 → F n (slA A n d k) ≤ slA (up A) n (d + 1) k := fun k hk => Nat.le_trans (hm (d - k) _) (sl_b2 A n d k (by omega))
    have h1 := N1 n (by omega) (slA A n d) (d + 1)
    have h2 := chain1 (F n) (d + 1) 0 (slA A n d) (slA (up A) n (d + 1)) c1 c2
    rw [cnt_succ A n d] at h
    have h3 := chain2 (F n) (d + 1) 0 (slA A n d) (slA (up A) n (d + 1)) c1 c2 (by omega)
    have h4 := N2 n (by omega) (slA A n d) (d + 1) (by omega)
    have top : ∀ k, d + 1 ≤ k → k ≤ d + 2 → slA (up (up A)) n (d + 2) k ≤ prev 0 (slA (up A) n (d + 1)) k := fun k hk hk2 => by
      rw [sl_e A n d k hk2]
      refine cnt_le _ _ _ _ fun m hl hs hm => ?_
      rcases upup_cons A k m hm with z | z
      · exact z
      · obtain ⟨t, _, a1, a2⟩ := up_ex m _ z
        obtain ⟨u, _, b1, _⟩ := up_ex t _ a2
        omega
    have lev : ∀ k, k < d + 1 → slA (up (up A)) n (d + 2) k ≤ prev 0 (slA (up A) n (d + 1)) k + (F n (F n (slA A n d k)) - F n (prev 0 (slA A n d) k)) := fun k hk => by
      have eb := h3 k hk
      have eX := sl_e A n d k (by omega)
      have cb1 := c1 k (by omega)
      have cb2 := sl_b2 A n d k (by omega)
      have hpv := sl_prev A n d k (by omega)
      have eE : slA (up (up A)) n (d + 2) k ≤ cnt n (d + 2 - k) (fun m => ahead (up A) k m || up (up fun t => A (k :: t)) m) := cnt_le _ _ _ _ fun m _ _ hm => by
        rcases upup_cons A k m hm with z | z <;> simp [z]
      by_cases hc : F n (slA A n d k) ≤ prev 0 (slA A n d) k
      · -- the multiples of this slice lie in the slice ahead
        have e1 : slA (up A) n (d + 1) k = prev 0 (slA A n d) k := by omega
        have sub : ∀ m, m.length = n → m.sum = d + 1 - k → up (fun t => A (k :: t)) m = true → ahead A k m = true := by
          have e2 : cnt n (d + 1 - k) (fun m => up A (k :: m)) ≤ cnt n (d + 1 - k) (ahead A k) := by
            rcases hpv with z | ⟨z0, z⟩
            · rw [z] at e1
              exact Nat.le_of_eq e1
            · rw [z] at e1
              have e3 : cnt n (d + 1 - k) (fun m => up A (k :: m)) = 0 := e1
              omega
          have s1 := cnt_same n (d + 1 - k) (ahead A k) (fun m => up A (k :: m)) (fun m _ _ hm => by
            show up A (k :: m) = true
            rw [up_cons, hm]; rfl) e2
          exact fun m hl hs hm => s1 m hl hs (by
            show up A (k :: m) = true
            rw [up_cons, hm, Bool.or_true])
        have : slA (up (up A)) n (d + 2) k ≤ prev 0 (slA (up A) n (d + 1)) k := by
          rw [eX]
          refine cnt_le _ _ _ _ fun m hl hs hm => ?_
          rcases upup_cons A k m hm with z | z
          · exact z
          · exact up_ahead A k m (up_le m _ _ (fun t a1 a2 a3 => sub t (a1.trans hl) (by omega) a3) z)
        omega
      · -- the slice ahead lies in the multiples of this slice, which is least itself
        have e1 : slA (up A) n (d + 1) k = F n (slA A n d k) := by omega
        have mk := hm (d - k) (fun t => A (k :: t))
        have mk' : F n (slA A n d k) ≤ cnt n (d - k + 1) (up fun t => A (k :: t)) := mk
        have e2 : cnt n (d - k + 1) (up fun t => A (k :: t)) = F n (slA A n d k) := by omega
        have ih := got n (by omega) (d - k) (fun t => A (k :: t)) e2
        have ih' : cnt n (d + 2 - k) (up (up fun t => A (k :: t))) ≤ F n (F n (slA A n d k)) := by
          rw [show d + 2 - k = d - k + 2 by omega]
          exact ih
        have sub : ∀ m, m.length = n → m.sum = d + 1 - k → ahead A k m = true → up (fun t => A (k :: t)) m = true := by
          have e3 : cnt n (d + 1 - k) (fun m => up A (k :: m)) ≤ cnt n (d + 1 - k) (up fun t => A (k :: t)) := by
            rw [show d - k + 1 = d + 1 - k by omega] at e2
            rw [e2, ← e1]
            exact Nat.le_refl _
          have s1 := cnt_same n (d + 1 - k) (up fun t => A (k :: t)) (fun m => up A (k :: m)) (fun m _ _ hm => by
            show up A (k :: m) = true
            rw [up_cons, hm, Bool.or_true]) e3
          exact fun m hl hs hm => s1 m hl hs (by
            show up A (k :: m) = true
            rw [up_cons, hm]; rfl)
        have both := cnt_or n (d + 2 - k) (ahead (up A) k) (up (up fun t => A (k :: t)))
        have inter : F n (prev 0 (slA A n d) k) ≤ cnt n (d + 2 - k) (fun m => ahead (up A) k m && up (up fun t => A (k :: t)) m) := by
          rcases hpv with z | ⟨_, z⟩
          · rw [z]
            have m2 := hm (d + 1 - k) (ahead A k)
            rw [show d + 1 - k + 1 = d + 2 - k by omega] at m2
            refine Nat.le_trans m2 (cnt_le _ _ _ _ fun m hl hs hm => ?_)
            rw [up_ahead A k m hm, up_le m _ _ (fun t a1 a2 a3 => sub t (a1.trans hl) (by omega) a3) hm]
            rfl
          · rw [z, F_zero]
            exact Nat.zero_le _
        omega
    have h5 := chain3 (F n) (d + 1) 0 0 (slA A n d) (slA (up A) n (d + 1)) (slA (up (up A)) n (d + 2)) lev (top (d + 1) (by omega) (by omega)) (top (d + 2) (by omega) (by omega))
    rw [cnt_succ (up (up A)) n (d + 2), cnt_succ A n d]
    rw [Nat.zero_add, h] at h5
    exact Nat.le_trans h5 h4
end PL
end
section
set_option Elab.async false
namespace PL
/-! binomials, words -/
def ch : Nat → Nat → Nat
  | _, 0 => 1
  | 0, _ + 1 => 0
  | n + 1, k + 1 => ch n k + ch n (k + 1)
theorem ch_zero (n : Nat) : ch n 0 = 1 := by cases n <;> rfl
theorem ch_succ (n k : Nat) : ch (n + 1) (k + 1) = ch n k + ch n (k + 1) := rfl
theorem ch_big : ∀ {n k : Nat}, n < k → ch n k = 0
  | 0, k + 1, _ => rfl
  | n + 1, k + 1, h => by rw [ch_succ, ch_big (show n < k by omega), ch_big (show n < k + 1 by omega)]
theorem ch_self : ∀ n : Nat, ch n n = 1
  | 0 => rfl
  | n + 1 => by rw [ch_succ, ch_self n, ch_big (show n < n + 1 by omega)]
theorem ch_one : ∀ n : Nat, ch n 1 = n
  | 0 => rfl
  | n + 1 => by rw [ch_succ, ch_zero, ch_one n]; omega
theorem ch_sym : ∀ (a b : Nat), ch (a + b) a = ch (a + b) b
  | 0, b => by rw [Nat.zero_add, ch_zero, ch_self]
  | a + 1, 0 => by rw [Nat.add_zero, ch_zero, ch_self]
  | a + 1, b + 1 => by
    have h1 := ch_sym a (b + 1)
    have h2 := ch_sym (a + 1) b
    rw [show a + 1 + (b + 1) = (a + 1 + b) + 1 by omega, ch_succ, ch_succ]
    rw [show a + (b + 1) = a + 1 + b by omega] at h1
    omega
theorem ch_mono {k : Nat} : ∀ {n m : Nat}, n ≤ m → ch n k ≤ ch m k := by
  intro n m h
  obtain ⟨c, rfl⟩ := Nat.le.dest h
  induction c with
  | zero => exact Nat.le_refl _
  | succ c ih =>
    refine Nat.le_trans (ih (by omega)) ?_
    cases k with
    | zero => rw [ch_zero, ch_zero]; exact Nat.le_refl _
    | succ k => rw [← Nat.add_assoc, ch_succ]; omega
def nn (n d : Nat) : Nat := cnt n d (fun _ => true)
theorem nn_zero : ∀ n, nn n 0 = 1
  | 0 => rfl
  | n + 1 => by
    have h := nn_zero n
    show sm (fun k => cnt n (0 - k) (fun _ => true)) 1 = 1
    simp only [sm]
    exact h
theorem nn_none (d : Nat) : nn 0 (d + 1) = 0 := rfl
theorem nn_succ (n d : Nat) : nn (n + 1) (d + 1) = nn n (d + 1) + nn (n + 1) d := by
  show sm (fun k => cnt n (d + 1 - k) (fun _ => true)) (d + 1 + 1) = _
  show cnt n (d + 1 - 0) (fun _ => true) + sm (fun k => cnt n (d + 1 - (k + 1)) (fun _ => true)) (d + 1) = _
  have : sm (fun k => cnt n (d + 1 - (k + 1)) (fun _ => true)) (d + 1) = nn (n + 1) d := by
    show _ = sm (fun k => cnt n (d - k) (fun _ => true)) (d + 1)
    exact sm_congr _ fun k _ => by rw [Nat.add_sub_add_right]
  rw [this]
  rfl
theorem nn_ch : ∀ n d, nn (n + 1) d = ch (d + n) n
  | n, 0 => by rw [nn_zero, Nat.zero_add, ch_self]
  | 0, d + 1 => by
    rw [nn_succ, nn_none, nn_ch 0 d, ch_zero, ch_zero]
  | n + 1, d + 1 => by
    rw [nn_succ, nn_ch n (d + 1), nn_ch (n + 1) d, show d + 1 + (n + 1) = (d + (n + 1)) + 1 by omega, ch_succ, show d + 1 + n = d + (n + 1) by omega]
theorem nn_ch' (n d : Nat) : nn (n + 1) d = ch (d + n) d := by
  rw [nn_ch, Nat.add_comm d n]
  exact ch_sym n d
theorem nn1 : ∀ d, nn 1 d = 1
  | 0 => nn_zero 1
  | d + 1 => by rw [nn_succ, nn_none, nn1 d]
theorem nn2 : ∀ d, nn 2 d = d + 1
  | 0 => nn_zero 2
  | d + 1 => by rw [nn_succ, nn1, nn2 d]; omega
theorem nn3 : ∀ d, nn 3 d = T (d + 2)
  | 0 => nn_zero 3
  | d + 1 => by rw [nn_succ, nn2, nn3 d, T_succ (d + 2)]; omega
theorem nn4 : ∀ d, nn 4 d = Te (d + 3)
  | 0 => nn_zero 4
  | d + 1 => by rw [nn_succ, nn3, nn4 d, Te_succ (d + 3)]; (try simp only [Nat.add_assoc, Nat.reduceAdd] at *); omega
theorem cnt_nn (n d : Nat) (A : WS) : cnt n d A ≤ nn n d := cnt_le _ _ _ _ fun _ _ _ _ => rfl
theorem cnt_none (n d : Nat) : cnt n d (fun _ => false) = 0 := by
  induction n generalizing d with
  | zero => simp [cnt]
  | succ n ih =>
    unfold cnt
    have : ∀ m (a : Nat → Nat), (∀ k, a k = 0) → sm a m = 0 := fun m => by
      induction m with
      | zero => intro _ _; rfl
      | succ m ih2 => intro a ha; unfold sm; rw [ha 0, ih2 _ fun k => ha (k + 1)]
    exact this _ _ fun k => ih _
theorem cnt_not (n d : Nat) (A : WS) : cnt n d A + cnt n d (fun m => !A m) = nn n d := by
  have h := cnt_or n d A (fun m => !A m)
  have e1 : cnt n d (fun m => A m || !A m) = nn n d := cnt_congr _ _ _ _ fun m _ _ => by cases A m <;> rfl
  have e2 : cnt n d (fun m => A m && !A m) = 0 := (cnt_congr _ _ _ (fun _ => false) fun m _ _ => by cases A m <;> rfl).trans (cnt_none n d)
  omega
theorem nn_pos (n d : Nat) : 0 < nn (n + 1) d := by
  induction d with
  | zero => rw [nn_zero]; omega
  | succ d ih => rw [nn_succ]; omega
theorem nn_mono (n d : Nat) : nn (n + 1) d ≤ nn (n + 1) (d + 1) := by rw [nn_succ]; omega
/-- the growth by the first letter -/
theorem F1 {n d b : Nat} (hn : n < 4) (hb : b ≤ nn n (d + 1)) : F (n + 1) (nn (n + 1) d + b) = nn (n + 1) (d + 1) + F n b := by
  match n, hn with
  | 0, _ =>
    rw [nn_none] at hb
    have : b = 0 := by omega
    subst this
    rw [nn1, nn1]
    rfl
  | 1, _ =>
    rw [nn2, nn2]
    show f2 (d + 1 + b) = d + 1 + 1 + b
    rw [f2_pos (by omega)]; omega
  | 2, _ =>
    rw [nn2] at hb
    rw [nn3, nn3]
    show T (d + 2) + b + g3 (T (d + 2) + b) = T (d + 1 + 2) + f2 b
    by_cases e : b = 0
    · subst e
      have h1 : g3 (T (d + 2) + 0) ≤ d + 2 := g3_min (Nat.le_refl _)
      have h2 : ¬ g3 (T (d + 2) + 0) ≤ d + 1 := fun z => by
        have h3 := g3_le (T (d + 2) + 0)
        have h4 := T_mono z
        have h5 : T (d + 2) = T (d + 1) + (d + 1) := rfl
        (try simp only [Nat.add_assoc, Nat.reduceAdd] at *); omega
      rw [T_succ (d + 2), f2_zero]
      omega
    · have h1 : g3 (T (d + 2) + b) ≤ d + 3 := g3_min (by rw [T_succ (d + 2)]; omega)
      have h2 : ¬ g3 (T (d + 2) + b) ≤ d + 2 := fun z => by
        have h3 := g3_le (T (d + 2) + b)
        have h4 := T_mono z
        omega
      rw [T_succ (d + 2), f2_pos (by omega)]
      omega
  | 3, _ =>
    rw [nn3] at hb
    rw [nn4, nn4]
    show Te (d + 3) + b + g4 (Te (d + 3) + b) = Te (d + 1 + 3) + (b + g3 b)
    have hg : g3 b ≤ d + 3 := g3_min hb
    have h1 : g4 (Te (d + 3) + b) ≤ T (d + 3) + g3 b := g4_min (by
      rw [W_at (j := d + 2) (by omega)]
      have := g3_le b
      (try simp only [Nat.add_assoc, Nat.reduceAdd] at *); omega)
    have h2 : ¬ g4 (Te (d + 3) + b) ≤ T (d + 3) + g3 b - 1 := fun z => by
      have h3 := g4_le (Te (d + 3) + b)
      have h4 := W_mono z
      by_cases e : b = 0
      · subst e
        rw [g3_zero, show T (d + 3) + 0 - 1 = T (d + 2) + (d + 1) by rw [T_succ (d + 2)]; omega, W_at (j := d + 1) (by omega)] at h4
        have e1 := Te_succ (d + 2)
        have e2 := T_succ (d + 1)
        (try simp only [Nat.add_assoc, Nat.reduceAdd] at *); omega
      · have t2 := g3_two (a := b) (by omega)
        have t3 := g3_lt (a := b) (c := g3 b - 1) (by omega)
        rw [show T (d + 3) + g3 b - 1 = T (d + 3) + (g3 b - 1) by omega, W_at (j := d + 2) (by omega)] at h4
        (try simp only [Nat.add_assoc, Nat.reduceAdd] at *); omega
    have e3 := Te_succ (d + 3)
    have e4 := T_succ (d + 2)
    (try simp only [Nat.add_assoc, Nat.reduceAdd] at *); omega
theorem F_one : ∀ n, n ≤ 4 → F n 1 = n
  | 0, _ | 1, _ | 2, _ => rfl
  | 3, _ => by decide
  | 4, _ => by
    show 1 + g4 1 = 4
    have h1 : g4 1 ≤ 3 := g4_min (by decide)
    have h2 : ¬ g4 1 ≤ 2 := fun z => by
      have h3 := g4_le 1
      have h4 := W_mono z
      rw [show W 2 = 0 by decide] at h4
      omega
    omega
theorem nn_one : ∀ n, nn n 1 = n
  | 0 => rfl
  | n + 1 => by rw [nn_succ, nn_one n, nn_zero]
theorem F_full {n : Nat} (hn : n ≤ 4) : ∀ d, F n (nn n d) = nn n (d + 1) := by
  induction n with
  | zero => intro d; rfl
  | succ n ih =>
    intro d
    cases d with
    | zero => rw [nn_zero, F_one _ hn, nn_one]
    | succ d =>
      rw [show nn (n + 1) (d + 1) = nn (n + 1) d + nn n (d + 1) by rw [nn_succ]; omega, F1 (by omega) (Nat.le_refl _), ih (by omega), nn_succ n (d + 1)]
      omega
theorem F_top {n d a : Nat} (hn : n ≤ 4) (h : a ≤ nn n d) : F n a ≤ nn n (d + 1) := by
  rw [← F_full hn d]
  exact F_mono n h
theorem F_ge {n a : Nat} (hn : 0 < n) : a ≤ F n a := by
  match n, hn with
  | 1, _ => exact Nat.le_refl _
  | 2, _ => show a ≤ f2 a; unfold f2; split <;> omega
  | 3, _ => exact Nat.le_add_right _ _
  | n + 4, _ => exact Nat.le_add_right _ _
/-! shares -/
def gtop (h i : Nat) : Nat → Nat
  | 0 => 0
  | k + 1 => if ch (k + 1) i ≤ h then k + 1 else gtop h i k
theorem ch_gt : ∀ h i : Nat, h < ch (h + i + 1) (i + 1)
  | 0, i => by rw [Nat.zero_add, ch_self]; omega
  | h + 1, i => by
    have h1 := ch_gt h i
    rw [show h + 1 + i + 1 = (h + i + 1) + 1 by omega, ch_succ]
    have h2 : ch i i ≤ ch (h + i + 1) i := ch_mono (by omega)
    rw [ch_self] at h2
    omega
theorem gtop_spec {h i : Nat} (hi : 0 < i) : ∀ k, h < ch (k + 1) i → ch (gtop h i k) i ≤ h ∧ h < ch (gtop h i k + 1) i
  | 0, hk => by
    obtain ⟨j, rfl⟩ : ∃ j, i = j + 1 := ⟨i - 1, by omega⟩
    exact ⟨Nat.zero_le _, hk⟩
  | k + 1, hk => by
    unfold gtop
    by_cases e : ch (k + 1) i ≤ h
    · rw [if_pos e]
      exact ⟨e, hk⟩
    · rw [if_neg e]
      exact gtop_spec hi k (by omega)
def gt (h i : Nat) : Nat := gtop h i (h + i)
theorem gt_spec {h i : Nat} (hi : 0 < i) : ch (gt h i) i ≤ h ∧ h < ch (gt h i + 1) i := by
  refine gtop_spec hi (h + i) ?_
  obtain ⟨j, rfl⟩ : ∃ j, i = j + 1 := ⟨i - 1, by omega⟩
  exact Nat.lt_of_lt_of_le (ch_gt h j) (ch_mono (by omega))
theorem gt_uniq {h i k : Nat} (hi : 0 < i) (h1 : ch k i ≤ h) (h2 : h < ch (k + 1) i) : gt h i = k := by
  obtain ⟨a, b⟩ := gt_spec (h := h) hi
  rcases Nat.lt_trichotomy (gt h i) k with z | z | z
  · have := ch_mono (k := i) (show gt h i + 1 ≤ k by omega)
    omega
  · exact z
  · have := ch_mono (k := i) (show k + 1 ≤ gt h i by omega)
    omega
/-- the growth bound of h at a degree -/
def bnd : Nat → Nat → Nat
  | 0, _ => 0
  | i + 1, h => if h = 0 then 0 else ch (gt h (i + 1) + 1) (i + 2) + bnd i (h - ch (gt h (i + 1)) (i + 1))
theorem bnd_zero : ∀ i, bnd i 0 = 0
  | 0 => rfl
  | i + 1 => by unfold bnd; rw [if_pos rfl]
theorem bnd_at {i h k : Nat} (h0 : 0 < h) (h1 : ch k (i + 1) ≤ h) (h2 : h < ch (k + 1) (i + 1)) : bnd (i + 1) h = ch (k + 1) (i + 2) + bnd i (h - ch k (i + 1)) := by
  have e := gt_uniq (show 0 < i + 1 by omega) h1 h2
  show (if h = 0 then 0 else ch (gt h (i + 1) + 1) (i + 2) + bnd i (h - ch (gt h (i + 1)) (i + 1))) = _
  rw [if_neg (by omega), e]
/-- the bound of what is left, and the growth of what is in -/
theorem bnd_F : ∀ n d h, n < 4 → h ≤ nn (n + 1) (d + 1) → bnd (d + 1) h + F (n + 1) (nn (n + 1) (d + 1) - h) = nn (n + 1) (d + 2) := by
  intro n
  induction n with
  | zero =>
    intro d
    induction d with
    | zero =>
      intro h _ hh
      rw [nn1] at hh ⊢
      rw [nn1]
      have : h = 0 ∨ h = 1 := by omega
      rcases this with e | e <;> subst e <;> decide
    | succ d ih =>
      intro h hn hh
      rw [nn1] at hh ⊢
      rw [nn1]
      have : h = 0 ∨ h = 1 := by omega
      rcases this with e | e
      · subst e
        rw [bnd_zero]
        rfl
      · subst e
        rw [bnd_at (k := d + 2) (by omega) (by rw [ch_self]; omega) (by rw [ch_succ, ch_self]; rw [show d + 1 = d + 1 from rfl]; have := ch_one (d + 2); have h3 : ch (d + 1) (d + 1) ≤ ch (d + 2) (d + 1) := ch_mono (by omega); rw [ch_self] at h3; omega)]
        rw [ch_self, ch_self, show 1 - 1 = 0 from rfl, bnd_zero]
        rfl
  | succ n ihn =>
    intro d
    induction d with
    | zero =>
      intro h hn hh
      rw [nn_one] at hh ⊢
      by_cases e : h = 0
      · subst e
        rw [bnd_zero, Nat.sub_zero]
        have := F_full (n := n + 1 + 1) (by omega) 1
        rw [nn_one] at this
        (try simp only [Nat.add_assoc, Nat.reduceAdd] at *); omega
      · rw [bnd_at (k := h) (by omega) (by rw [ch_one]; omega) (by rw [ch_one]; omega), ch_one]
        rw [Nat.sub_self, bnd_zero]
        have key : ∀ m, m ≤ 4 → ∀ b, b ≤ m → ch (m - b + 1) 2 + F m b = nn m 2 := by
          intro m
          induction m with
          | zero => intro _ b hb; have : b = 0 := by omega
                    subst this; decide
          | succ m ih =>
            intro hm b hb
            by_cases eb : b = 0
            · subst eb
              rw [F_zero, Nat.sub_zero, nn_ch', show 2 + m = m + 1 + 1 by omega]
              omega
            · have e1 := F1 (n := m) (d := 0) (b := b - 1) (by omega) (by rw [nn_one]; omega)
              rw [nn_zero, show 1 + (b - 1) = b by omega, nn_one] at e1
              have e2 := ih (by omega) (b - 1) (by omega)
              rw [show m - (b - 1) + 1 = m + 1 - b + 1 by omega] at e2
              rw [nn_succ m 1, nn_one]
              (try simp only [Nat.add_assoc, Nat.reduceAdd] at *); omega
        have := key (n + 1 + 1) (by omega) (n + 1 + 1 - h) (by omega)
        rw [show n + 1 + 1 - (n + 1 + 1 - h) = h by omega] at this
        omega
    | succ d ih =>
      intro h hn hh
      have es : nn (n + 2) (d + 2) = nn (n + 1) (d + 2) + nn (n + 2) (d + 1) := nn_succ (n + 1) (d + 1)
      have es2 : nn (n + 2) (d + 3) = nn (n + 1) (d + 3) + nn (n + 2) (d + 2) := nn_succ (n + 1) (d + 2)
      have hh : h ≤ nn (n + 2) (d + 2) := hh
      show bnd (d + 2) h + F (n + 2) (nn (n + 2) (d + 2) - h) = nn (n + 2) (d + 3)
      have q1 : nn (n + 1) (d + 2) = ch (d + 2 + n) (d + 2) := nn_ch' n (d + 2)
      have q2 : nn (n + 1) (d + 3) = ch (d + 2 + n + 1) (d + 3) := by rw [nn_ch' n (d + 3), show d + 3 + n = d + 2 + n + 1 by omega]
      have q3 : nn (n + 2) (d + 2) = ch (d + 2 + n + 1) (d + 2) := nn_ch' (n + 1) (d + 2)
      have q4 : nn (n + 2) (d + 3) = ch (d + 2 + n + 1 + 1) (d + 3) := by rw [nn_ch' (n + 1) (d + 3), show d + 3 + (n + 1) = d + 2 + n + 1 + 1 by omega]
      by_cases c1 : h < nn (n + 1) (d + 2)
      · have i1 : bnd (d + 2) h + F (n + 1) (nn (n + 1) (d + 2) - h) = nn (n + 1) (d + 3) := ihn (d + 1) h (by omega) (Nat.le_of_lt c1)
        have e1 : F (n + 2) (nn (n + 2) (d + 1) + (nn (n + 1) (d + 2) - h)) = nn (n + 2) (d + 2) + F (n + 1) (nn (n + 1) (d + 2) - h) := F1 (n := n + 1) (d := d + 1) (b := nn (n + 1) (d + 2) - h) (by omega) (Nat.sub_le _ _)
        rw [show nn (n + 2) (d + 1) + (nn (n + 1) (d + 2) - h) = nn (n + 2) (d + 2) - h by omega] at e1
        omega
      · have p0 : 0 < nn (n + 1) (d + 2) := nn_pos _ _
        by_cases c2 : h = nn (n + 2) (d + 2)
        · have l1 : h < ch (d + 2 + n + 1 + 1) (d + 2) := by
            have := ch_mono (k := d + 1) (show d + 1 ≤ d + 2 + n + 1 by omega)
            rw [ch_self] at this
            rw [ch_succ (d + 2 + n + 1) (d + 1)]
            (try simp only [Nat.add_assoc, Nat.reduceAdd] at *); omega
          rw [bnd_at (i := d + 1) (h := h) (k := d + 2 + n + 1) (by omega) (by (try simp only [Nat.add_assoc, Nat.reduceAdd] at *); omega) l1]
          rw [show h - ch (d + 2 + n + 1) (d + 1 + 1) = 0 by rw [c2, q3]; exact Nat.sub_self _, bnd_zero, c2, Nat.sub_self, F_zero, q4]
          rfl
        · rw [bnd_at (i := d + 1) (h := h) (k := d + 2 + n) (by omega) (by (try simp only [Nat.add_assoc, Nat.reduceAdd] at *); omega) (by rw [show ch (d + 2 + n + 1) (d + 1 + 1) = nn (n + 2) (d + 2) from q3.symm]; omega)]
          rw [show ch (d + 2 + n) (d + 1 + 1) = nn (n + 1) (d + 2) from q1.symm, show ch (d + 2 + n + 1) (d + 1 + 2) = nn (n + 1) (d + 3) from q2.symm]
          have i1 : bnd (d + 1) (h - nn (n + 1) (d + 2)) + F (n + 2) (nn (n + 2) (d + 1) - (h - nn (n + 1) (d + 2))) = nn (n + 2) (d + 2) := ih (h - nn (n + 1) (d + 2)) hn (by show h - nn (n + 1) (d + 2) ≤ nn (n + 2) (d + 1); omega)
          rw [show nn (n + 2) (d + 1) - (h - nn (n + 1) (d + 2)) = nn (n + 2) (d + 2) - h by omega] at i1
          omega
end PL
end
section
set_option Elab.async false
namespace PL
/-! places of words -/
def pos : List Nat → Nat
  | [] => 0
  | _ :: m => (if m.sum = 0 then 0 else nn (m.length + 1) (m.sum - 1)) + pos m
theorem pos_cons (k : Nat) (m : List Nat) : pos (k :: m) = (if m.sum = 0 then 0 else nn (m.length + 1) (m.sum - 1)) + pos m := rfl
theorem nn_mono' (n : Nat) {d e : Nat} (h : d ≤ e) : nn (n + 1) d ≤ nn (n + 1) e := by
  obtain ⟨c, rfl⟩ := Nat.le.dest h
  induction c with
  | zero => exact Nat.le_refl _
  | succ c ih => exact Nat.le_trans (ih (by omega)) (nn_mono n (d + c))
theorem pos_lt : ∀ (m : List Nat) (n d : Nat), m.length = n → m.sum = d → pos m < nn n d
  | [], n, d, hl, hs => by
    subst hl hs
    decide
  | k :: m, n, d, hl, hs => by
    subst hl hs
    have ih := pos_lt m _ _ rfl rfl
    rw [pos_cons]
    have h2 := nn_mono' m.length (show m.sum ≤ (k :: m).sum by simp)
    show _ < nn (m.length + 1) (k :: m).sum
    split
    · rename_i e
      rw [e, nn_zero] at ih
      rw [e, nn_zero] at h2
      omega
    · rename_i e
      have h3 := nn_succ m.length (m.sum - 1)
      rw [show m.sum - 1 + 1 = m.sum by omega] at h3
      omega
theorem cnt_pos : ∀ (n d a : Nat), cnt n d (fun m => decide (pos m < a)) = min a (nn n d)
  | 0, 0, a => by
    show (if 0 = 0 then (if decide (0 < a) = true then 1 else 0) else 0) = min a 1
    by_cases e : 0 < a
    · simp [e]; omega
    · have : a = 0 := by omega
      subst this
      rfl
  | 0, d + 1, a => by
    show 0 = min a 0
    omega
  | n + 1, 0, a => by
    have h := cnt_pos n 0 a
    rw [nn_zero] at h ⊢
    show cnt n (0 - 0) (fun m => decide (pos (0 :: m) < a)) + 0 = min a 1
    rw [Nat.add_zero, ← h]
    exact cnt_congr _ _ _ _ fun m hl hs => by
      rw [pos_cons, if_pos (by simpa using hs), Nat.zero_add]
  | n + 1, d + 1, a => by
    have h1 := cnt_pos n (d + 1) (a - nn (n + 1) d)
    have h2 := cnt_pos (n + 1) d a
    have e1 : cnt n (d + 1 - 0) (fun m => decide (pos (0 :: m) < a)) = cnt n (d + 1) (fun m => decide (pos m < a - nn (n + 1) d)) := cnt_congr _ _ _ _ fun m hl hs => by
      rw [pos_cons, if_neg (by omega), hl, hs]
      rw [show d + 1 - 0 - 1 = d by omega]
      exact decide_eq_decide.mpr (by omega)
    have e2 : sm (fun k => cnt n (d + 1 - (k + 1)) (fun m => decide (pos ((k + 1) :: m) < a))) (d + 1) = cnt (n + 1) d (fun m => decide (pos m < a)) := by
      show _ = sm (fun k => cnt n (d - k) (fun m => decide (pos (k :: m) < a))) (d + 1)
      exact sm_congr _ fun k _ => by rw [Nat.add_sub_add_right]; rfl
    have e3 : cnt (n + 1) (d + 1) (fun m => decide (pos m < a)) = cnt n (d + 1 - 0) (fun m => decide (pos (0 :: m) < a)) + sm (fun k => cnt n (d + 1 - (k + 1)) (fun m => decide (pos ((k + 1) :: m) < a))) (d + 1) := rfl
    have e4 := nn_succ n d
    omega
/-- multiples of first words are first words -/
theorem up_pos : ∀ (m : List Nat) (n a : Nat), m.length = n → n ≤ 4 → up (fun t => decide (pos t < a)) m = true → pos m < F n a
  | [], _, _, _, _, h => by simp [up] at h
  | k :: m, n, a, hl, hn, h => by
    subst hl
    have hn : m.length + 1 ≤ 4 := hn
    show pos (k :: m) < F (m.length + 1) a
    have ha := F_ge (n := m.length + 1) (a := a) (by omega)
    rw [up_cons, Bool.or_eq_true] at h
    rcases h with h | h
    · cases k with
      | zero => simp [ahead] at h
      | succ j =>
        have h2 : pos (j :: m) < a := of_decide_eq_true h
        rw [pos_cons] at h2 ⊢
        omega
    · obtain ⟨t, _, hts, _⟩ := up_ex m _ h
      obtain ⟨e, he⟩ : ∃ e, m.sum = e + 1 := ⟨t.sum, hts.symm⟩
      let M : Nat := if e = 0 then 0 else nn (m.length + 1) (e - 1)
      have hM : M = if e = 0 then 0 else nn (m.length + 1) (e - 1) := rfl
      have h3 := up_le m _ (fun t => decide (pos t < min (a - M) (nn m.length e))) (fun t h1 h2 h3 => by
        have h4 : pos (k :: t) < a := of_decide_eq_true h3
        have h5 := pos_lt t m.length e h1 (by omega)
        rw [pos_cons, show t.sum = e by omega, h1] at h4
        exact decide_eq_true (by omega)) h
      have ih := up_pos m m.length _ rfl (by omega) h3
      generalize hb : min (a - M) (nn m.length e) = b at ih
      have b0 : 0 < b := by
        rcases Nat.eq_zero_or_pos b with z | z
        · rw [z, F_zero] at ih
          omega
        · exact z
      have h6 : F (m.length + 1) (M + b) ≤ F (m.length + 1) a := F_mono _ (by omega)
      rw [pos_cons, if_neg (by omega), he, Nat.add_sub_cancel]
      by_cases e0 : e = 0
      · subst e0
        rw [if_pos rfl] at hM
        rw [nn_zero] at hb
        have : b = 1 := by omega
        subst this
        rw [hM, Nat.zero_add, F_one _ hn] at h6
        rw [F_one _ (by omega)] at ih
        rw [nn_zero]
        omega
      · obtain ⟨e', rfl⟩ : ∃ e', e = e' + 1 := ⟨e - 1, by omega⟩
        rw [if_neg (by omega), Nat.add_sub_cancel] at hM
        have h7 := F1 (n := m.length) (d := e') (b := b) (by omega) (by omega)
        rw [← hM] at h7
        omega
theorem lex_up {n d a : Nat} (hn : n ≤ 4) (ha : a ≤ nn n d) (m : List Nat) (hl : m.length = n) (hs : m.sum = d + 1) : up (fun t => decide (pos t < a)) m = true ↔ pos m < F n a := by
  constructor
  · exact up_pos m n a hl hn
  · intro h
    have h1 := mac n hn d (fun t => decide (pos t < a))
    rw [cnt_pos, show min a (nn n d) = a by omega] at h1
    have h2 := F_top hn ha
    refine cnt_same n (d + 1) (up fun t => decide (pos t < a)) (fun t => decide (pos t < F n a)) (fun t h3 _ h4 => decide_eq_true (up_pos t n a h3 hn h4)) ?_ m hl hs (decide_eq_true h)
    rw [cnt_pos]
    omega
/-! the list of words -/
def inc : List Nat → List Nat
  | [] => []
  | k :: m => (k + 1) :: m
def words : Nat → Nat → List (List Nat)
  | 0, 0 => [[]]
  | 0, _ + 1 => []
  | n + 1, 0 => (words n 0).map (0 :: ·)
  | n + 1, d + 1 => (words (n + 1) d).map inc ++ (words n (d + 1)).map (0 :: ·)
termination_by n d => (n, d)
theorem words_00 : words 0 0 = [[]] := by rw [words]
theorem words_0s (d : Nat) : words 0 (d + 1) = [] := by rw [words]
theorem words_s0 (n : Nat) : words (n + 1) 0 = (words n 0).map (0 :: ·) := by rw [words]
theorem words_ss (n d : Nat) : words (n + 1) (d + 1) = (words (n + 1) d).map inc ++ (words n (d + 1)).map (0 :: ·) := by rw [words]
theorem words_len : ∀ n d, (words n d).length = nn n d := by
  intro n
  induction n with
  | zero =>
    intro d
    cases d with
    | zero => rw [words_00]; rfl
    | succ d => rw [words_0s]; rfl
  | succ n ihn =>
    intro d
    induction d with
    | zero => rw [words_s0, List.length_map, ihn, nn_zero, nn_zero]
    | succ d ih => rw [words_ss, List.length_append, List.length_map, List.length_map, ih, ihn, nn_succ]; omega
theorem words_at : ∀ n d i m, (words n d)[i]? = some m → m.length = n ∧ m.sum = d ∧ pos m = i := by
  intro n
  induction n with
  | zero =>
    intro d i m h
    cases d with
    | zero =>
      rw [words_00] at h
      cases i with
      | zero =>
        have : [] = m := by simpa using h
        subst this
        exact ⟨rfl, rfl, rfl⟩
      | succ i => simp at h
    | succ d => rw [words_0s] at h; simp at h
  | succ n ihn =>
    intro d
    induction d with
    | zero =>
      intro i m h
      rw [words_s0, List.getElem?_map, Option.map_eq_some_iff] at h
      obtain ⟨t, h1, rfl⟩ := h
      obtain ⟨a, b, c⟩ := ihn 0 i t h1
      refine ⟨by simp [a], by simp [b], ?_⟩
      rw [pos_cons, if_pos b, c, Nat.zero_add]
    | succ d ih =>
      intro i m h
      rw [words_ss] at h
      by_cases e : i < nn (n + 1) d
      · rw [List.getElem?_append_left (by rw [List.length_map, words_len]; exact e), List.getElem?_map, Option.map_eq_some_iff] at h
        obtain ⟨t, h1, rfl⟩ := h
        obtain ⟨a, b, c⟩ := ih i t h1
        cases t with
        | nil => simp at a
        | cons k t =>
          refine ⟨a, by simp at b; simp [inc]; omega, c⟩
      · rw [List.getElem?_append_right (by rw [List.length_map, words_len]; omega), List.getElem?_map, Option.map_eq_some_iff, List.length_map, words_len] at h
        obtain ⟨t, h1, rfl⟩ := h
        obtain ⟨a, b, c⟩ := ihn (d + 1) _ t h1
        refine ⟨by simp [a], by simp [b], ?_⟩
        rw [pos_cons, if_neg (by omega), a, b, c, Nat.add_sub_cancel]
        omega
theorem words_of : ∀ n d m, m.length = n → m.sum = d → (words n d)[pos m]? = some m := by
  intro n
  induction n with
  | zero =>
    intro d m hl hs
    have : m = [] := List.length_eq_zero_iff.mp hl
    subst this
    subst hs
    show (words 0 0)[0]? = some []
    rw [words_00]
    rfl
  | succ n ihn =>
    intro d
    induction d with
    | zero =>
      intro m hl hs
      cases m with
      | nil => simp at hl
      | cons k m =>
        have hk : k = 0 ∧ m.sum = 0 := by simp at hs; omega
        obtain ⟨rfl, h0⟩ := hk
        rw [pos_cons, if_pos h0, Nat.zero_add, words_s0, List.getElem?_map, ihn 0 m (by simpa using hl) h0]
        rfl
    | succ d ih =>
      intro m hl hs
      cases m with
      | nil => simp at hl
      | cons k m =>
        have hl' : m.length = n := by simpa using hl
        rw [words_ss]
        cases k with
        | succ k =>
          have h1 := ih (k :: m) hl (by simp at hs; simp; omega)
          have hp : pos ((k + 1) :: m) = pos (k :: m) := rfl
          have h2 := pos_lt (k :: m) (n + 1) d hl (by simp at hs; simp; omega)
          rw [hp, List.getElem?_append_left (by rw [List.length_map, words_len]; exact h2), List.getElem?_map, h1]
          rfl
        | zero =>
          have hs' : m.sum = d + 1 := by simpa using hs
          have h1 := ihn (d + 1) m hl' hs'
          rw [pos_cons, if_neg (by omega), hl', hs', Nat.add_sub_cancel, List.getElem?_append_right (by rw [List.length_map, words_len]; omega), List.length_map, words_len, Nat.add_sub_cancel_left, List.getElem?_map, h1]
          rfl
/-! divisors, lots -/
def dv : List Nat → List Nat → Bool
  | x :: xs, m :: ms => decide (x ≤ m) && dv xs ms
  | _, _ => true
theorem dv_refl : ∀ m, dv m m = true
  | [] => rfl
  | k :: m => by simp [dv, dv_refl m]
theorem dv_trans : ∀ {x y z : List Nat}, x.length = y.length → y.length = z.length → dv x y = true → dv y z = true → dv x z = true
  | [], _, _, _, _, _, _ => by simp [dv]
  | x :: xs, [], _, h, _, _, _ => by simp at h
  | x :: xs, y :: ys, [], _, h, _, _ => by simp at h
  | x :: xs, y :: ys, z :: zs, h1, h2, h3, h4 => by
    simp only [dv, Bool.and_eq_true, decide_eq_true_eq] at h3 h4 ⊢
    exact ⟨by omega, dv_trans (by simpa using h1) (by simpa using h2) h3.2 h4.2⟩
theorem dv_sum : ∀ {x y : List Nat}, x.length = y.length → dv x y = true → x.sum ≤ y.sum
  | [], [], _, _ => Nat.le_refl _
  | x :: xs, y :: ys, h, h1 => by
    simp only [dv, Bool.and_eq_true, decide_eq_true_eq] at h1
    have := dv_sum (by simpa using h) h1.2
    simp
    omega
theorem dv_eq : ∀ {x y : List Nat}, x.length = y.length → dv x y = true → x.sum = y.sum → x = y
  | [], [], _, _, _ => rfl
  | x :: xs, y :: ys, h, h1, h2 => by
    simp only [dv, Bool.and_eq_true, decide_eq_true_eq] at h1
    have h3 := dv_sum (x := xs) (y := ys) (by simpa using h) h1.2
    simp at h2
    have h4 := dv_eq (x := xs) (y := ys) (by simpa using h) h1.2 (by omega)
    have : x = y := by omega
    rw [this, h4]
theorem dv_up : ∀ {x m : List Nat}, x.length = m.length → dv x m = true → x.sum < m.sum → up (fun t => dv x t) m = true
  | [], [], _, _, h => by simp at h
  | x :: xs, k :: m, hl, h1, h2 => by
    simp only [dv, Bool.and_eq_true, decide_eq_true_eq] at h1
    rw [up_cons, Bool.or_eq_true]
    by_cases e : x < k
    · left
      obtain ⟨j, rfl⟩ : ∃ j, k = j + 1 := ⟨k - 1, by omega⟩
      show (decide (x ≤ j) && dv xs m) = true
      rw [h1.2, decide_eq_true (by omega)]
      rfl
    · right
      have h3 := dv_up (x := xs) (m := m) (by simpa using hl) h1.2 (by simp at h2; omega)
      exact up_le m _ _ (fun t _ _ h4 => by
        show (decide (x ≤ k) && dv xs t) = true
        rw [h4, decide_eq_true (by omega)]
        rfl) h3
theorem up_dv : ∀ {x m : List Nat}, x.length = m.length → up (fun t => dv x t) m = true → dv x m = true
  | [], _, _, _ => by simp [dv]
  | x :: xs, [], hl, _ => by simp at hl
  | x :: xs, k :: m, hl, h => by
    rw [up_cons, Bool.or_eq_true] at h
    simp only [dv, Bool.and_eq_true, decide_eq_true_eq]
    rcases h with h | h
    · cases k with
      | zero => simp [ahead] at h
      | succ j =>
        have h : (decide (x ≤ j) && dv xs m) = true := h
        simp only [Bool.and_eq_true, decide_eq_true_eq] at h
        exact ⟨by omega, h.2⟩
    · obtain ⟨t, h1, h2, h3⟩ := up_ex m _ h
      simp only [dv, Bool.and_eq_true, decide_eq_true_eq] at h3
      refine ⟨h3.1, up_dv (x := xs) (m := m) (by simpa using hl) (up_le m _ _ (fun t _ _ h4 => ?_) h)⟩
      simp only [dv, Bool.and_eq_true, decide_eq_true_eq] at h4
      exact h4.2
def inI (ms : List (List Nat)) : WS := fun m => ms.any fun x => dv x m
theorem inI_iff {ms : List (List Nat)} {m : List Nat} : inI ms m = true ↔ ∃ x ∈ ms, dv x m = true := by
  unfold inI
  rw [List.any_eq_true]
theorem up_inI {ms : List (List Nat)} {m : List Nat} (hx : ∀ x ∈ ms, x.length = m.length) (h : up (inI ms) m = true) : inI ms m = true := by
  induction ms with
  | nil =>
    obtain ⟨t, _, _, z⟩ := up_ex m _ h
    simp [inI] at z
  | cons x ms ih =>
    have e : inI (x :: ms) = fun t => dv x t || inI ms t := funext fun t => by simp [inI]
    rw [e, up_or, Bool.or_eq_true] at h
    rw [e]
    show (dv x m || inI ms m) = true
    rw [Bool.or_eq_true]
    rcases h with h | h
    · exact .inl (up_dv (hx x (by simp)) h)
    · exact .inr (ih (fun y hy => hx y (by simp [hy])) h)
theorem inI_up {ms : List (List Nat)} {m : List Nat} (hx : ∀ x ∈ ms, x.length = m.length) (hd : ∀ x ∈ ms, x.sum < m.sum) (h : inI ms m = true) : up (inI ms) m = true := by
  obtain ⟨x, h1, h2⟩ := inI_iff.mp h
  exact up_le m _ _ (fun t _ _ h3 => inI_iff.mpr ⟨x, h1, h3⟩) (dv_up (hx x h1) h2 (hd x h1))
/-- how many words of a degree a lot has -/
def iA (n : Nat) (ms : List (List Nat)) (d : Nat) : Nat := cnt n d (inI ms)
theorem iA_mac {n : Nat} (hn : n ≤ 4) {ms : List (List Nat)} (hx : ∀ x ∈ ms, x.length = n) (d : Nat) : F n (iA n ms d) ≤ iA n ms (d + 1) :=
  Nat.le_trans (mac n hn d (inI ms)) (cnt_le _ _ _ _ fun m hl _ h => up_inI (fun x hm => (hx x hm).trans hl.symm) h)
theorem iA_up {n : Nat} {ms : List (List Nat)} (hx : ∀ x ∈ ms, x.length = n) {d : Nat} (hd : ∀ x ∈ ms, x.sum ≤ d) : iA n ms (d + 1) = cnt n (d + 1) (up (inI ms)) :=
  Nat.le_antisymm (cnt_le _ _ _ _ fun m hl hs h => inI_up (fun x hm => (hx x hm).trans hl.symm) (fun x hm => by have := hd x hm; omega) h)
    (cnt_le _ _ _ _ fun m hl _ h => up_inI (fun x hm => (hx x hm).trans hl.symm) h)
/-- once least growth behind the members: for ever -/
theorem iA_got {n : Nat} (hn : n ≤ 4) {ms : List (List Nat)} (hx : ∀ x ∈ ms, x.length = n) {d : Nat} (hd : ∀ x ∈ ms, x.sum ≤ d) (h : iA n ms (d + 1) = F n (iA n ms d)) : iA n ms (d + 2) = F n (iA n ms (d + 1)) := by
  have h1 := iA_up hx hd
  have h2 := got n hn d (inI ms) (by rw [← h1]; exact h)
  have h3 : iA n ms (d + 2) ≤ cnt n (d + 2) (up (up (inI ms))) := cnt_le _ _ _ _ fun m hl hs hm => by
    have h4 := inI_up (fun x hm => (hx x hm).trans hl.symm) (fun x hm => by have := hd x hm; omega) hm
    exact up_le m _ _ (fun t a b c => inI_up (fun x hm => (hx x hm).trans (a.trans hl).symm) (fun x hm => by have := hd x hm; omega) c) h4
  have h5 : F n (iA n ms (d + 1)) ≤ iA n ms (d + 2) := iA_mac hn hx (d + 1)
  have h6 : cnt n d (inI ms) = iA n ms d := rfl
  rw [h6, ← h] at h2
  omega
/-! how many are left; where the bound is met -/
def left (n : Nat) (ms : List (List Nat)) (d : Nat) : Nat := nn n d - iA n ms d
def met (n : Nat) (ms : List (List Nat)) (d : Nat) : Prop := left n ms (d + 1) = bnd d (left n ms d)
theorem met_iff {n : Nat} (hn : n < 4) (ms : List (List Nat)) (d : Nat) : met (n + 1) ms (d + 1) ↔ iA (n + 1) ms (d + 2) = F (n + 1) (iA (n + 1) ms (d + 1)) := by
  have h1 : iA (n + 1) ms (d + 1) ≤ nn (n + 1) (d + 1) := cnt_nn _ _ _
  have h2 : iA (n + 1) ms (d + 2) ≤ nn (n + 1) (d + 2) := cnt_nn _ _ _
  have h3 := bnd_F n d (left (n + 1) ms (d + 1)) hn (Nat.sub_le _ _)
  have h4 : nn (n + 1) (d + 1) - left (n + 1) ms (d + 1) = iA (n + 1) ms (d + 1) := by unfold left; omega
  rw [h4] at h3
  have h5 : left (n + 1) ms (d + 2) = nn (n + 1) (d + 2) - iA (n + 1) ms (d + 2) := rfl
  unfold met
  show left (n + 1) ms (d + 2) = bnd (d + 1) (left (n + 1) ms (d + 1)) ↔ _
  constructor <;> intro h <;> omega
theorem met_on {n : Nat} (h0 : 0 < n) (hn : n ≤ 4) {ms : List (List Nat)} (hx : ∀ x ∈ ms, x.length = n) {d : Nat} (d0 : 0 < d) (hd : ∀ x ∈ ms, x.sum ≤ d) (h : met n ms d) : met n ms (d + 1) := by
  obtain ⟨n, rfl⟩ : ∃ k, n = k + 1 := ⟨n - 1, by omega⟩
  obtain ⟨d, rfl⟩ : ∃ k, d = k + 1 := ⟨d - 1, by omega⟩
  rw [met_iff (by omega)] at h
  rw [met_iff (n := n) (by omega) ms (d + 1)]
  exact iA_got hn hx hd h
end PL
end
section
set_option Elab.async false
namespace PL
/-! multiples of a product, counted -/
def addw : List Nat → List Nat → List Nat
  | x :: xs, m :: ms => (x + m) :: addw xs ms
  | _, ms => ms
theorem sm_tail {f : Nat → Nat} : ∀ (a b : Nat), (∀ k, a ≤ k → k < a + b → f k = 0) → sm f (a + b) = sm f a
  | a, 0, _ => rfl
  | a, b + 1, h => by
    rw [← Nat.add_assoc, sm_last, sm_tail a b fun k h1 h2 => h k h1 (by omega), h (a + b) (by omega) (by omega)]
    omega
theorem sm_head {f : Nat → Nat} : ∀ (e m : Nat), (∀ k, k < e → f k = 0) → sm f (e + m) = sm (fun k => f (e + k)) m
  | 0, m, _ => by
    rw [Nat.zero_add]
    exact sm_congr m fun k _ => by rw [Nat.zero_add]
  | e + 1, m, h => by
    rw [show e + 1 + m = (e + m) + 1 by omega]
    show f 0 + sm (fun k => f (k + 1)) (e + m) = _
    rw [h 0 (by omega), sm_head (f := fun k => f (k + 1)) e m fun k hk => h (k + 1) (by omega), Nat.zero_add]
    exact sm_congr m fun k _ => by rw [show e + 1 + k = e + k + 1 by omega]
theorem shiftP : ∀ (p : List Nat) (n d : Nat) (B : WS), p.length = n → cnt n d (fun m => dv p m && B m) = if p.sum ≤ d then cnt n (d - p.sum) (fun m => B (addw p m)) else 0
  | [], n, d, B, hl => by
    subst hl
    rw [if_pos (show ([] : List Nat).sum ≤ d from Nat.zero_le _)]
    exact cnt_congr _ _ _ _ fun m hm _ => by
      have : m = [] := List.length_eq_zero_iff.mp hm
      subst this
      simp [dv, addw]
  | x :: xs, n, d, B, hl => by
    subst hl
    have hs : (x :: xs).sum = x + xs.sum := by simp
    have step : ∀ k, cnt xs.length (d - k) (fun m => dv (x :: xs) (k :: m) && B (k :: m)) = if x ≤ k ∧ xs.sum ≤ d - k then cnt xs.length (d - k - xs.sum) (fun m => B (k :: addw xs m)) else 0 := fun k => by
      by_cases e : x ≤ k
      · have h1 := shiftP xs xs.length (d - k) (fun m => B (k :: m)) rfl
        have h2 : cnt xs.length (d - k) (fun m => dv (x :: xs) (k :: m) && B (k :: m)) = cnt xs.length (d - k) (fun m => dv xs m && B (k :: m)) := cnt_congr _ _ _ _ fun m _ _ => by
          show (decide (x ≤ k) && dv xs m && B (k :: m)) = _
          rw [decide_eq_true e, Bool.true_and]
        rw [h2, h1]
        by_cases e2 : xs.sum ≤ d - k
        · rw [if_pos e2, if_pos ⟨e, e2⟩]
        · rw [if_neg e2, if_neg (fun z => e2 z.2)]
      · rw [if_neg (fun z => e z.1)]
        have h2 : cnt xs.length (d - k) (fun m => dv (x :: xs) (k :: m) && B (k :: m)) = cnt xs.length (d - k) (fun _ => false) := cnt_congr _ _ _ _ fun m _ _ => by
          show (decide (x ≤ k) && dv xs m && B (k :: m)) = _
          rw [decide_eq_false e, Bool.false_and, Bool.false_and]
        rw [h2, cnt_none]
    show sm (fun k => cnt xs.length (d - k) (fun m => dv (x :: xs) (k :: m) && B (k :: m))) (d + 1) = _
    rw [sm_congr _ fun k _ => step k, hs]
    by_cases e : x + xs.sum ≤ d
    · rw [if_pos e]
      rw [show d + 1 = x + ((d - (x + xs.sum) + 1) + xs.sum) by omega, sm_head _ _ (fun k hk => if_neg (fun z => by omega)), sm_tail _ _ (fun k h1 h2 => if_neg (fun z => by omega))]
      show _ = sm (fun k => cnt xs.length (d - (x + xs.sum) - k) (fun m => B (addw (x :: xs) (k :: m)))) (d - (x + xs.sum) + 1)
      refine sm_congr _ fun k hk => ?_
      rw [if_pos ⟨by omega, by omega⟩, show d - (x + k) - xs.sum = d - (x + xs.sum) - k by omega]
      rfl
    · rw [if_neg e]
      have : ∀ m (a : Nat → Nat), (∀ k, k < m → a k = 0) → sm a m = 0 := fun m => by
        induction m with
        | zero => intro _ _; rfl
        | succ m ih2 => intro a ha; unfold sm; rw [ha 0 (by omega), ih2 _ fun k hk => ha (k + 1) (by omega)]
      exact this _ _ fun k hk => if_neg (fun z => by omega)
theorem cnt_dv {p : List Nat} {n d : Nat} (hl : p.length = n) : cnt n d (dv p) = if p.sum ≤ d then nn n (d - p.sum) else 0 := by
  have h := shiftP p n d (fun _ => true) hl
  have e : cnt n d (fun m => dv p m && true) = cnt n d (dv p) := cnt_congr _ _ _ _ fun m _ _ => by rw [Bool.and_true]
  rw [e] at h
  exact h
/-! numerators: pairs (degree, number) -/
abbrev Nm := List (Nat × Int)
def term (n d : Nat) (p : Nat × Int) : Int := if p.1 ≤ d then p.2 * (nn n (d - p.1) : Nat) else 0
def nsum (n : Nat) (K : Nm) (d : Nat) : Int := (K.map (term n d)).sum
/-- d[k] = d.get(k, 0) + c -/
def addn : Nm → Nat → Int → Nm
  | [], k, c => [(k, c)]
  | p :: K, k, c => if p.1 = k then (k, p.2 + c) :: K else p :: addn K k c
theorem term_add (n d k : Nat) (a c : Int) : term n d (k, a + c) = term n d (k, a) + term n d (k, c) := by
  unfold term
  dsimp only
  split
  · rw [Int.add_mul]
  · omega
theorem nsum_addn (n d : Nat) : ∀ (K : Nm) (k : Nat) (c : Int), nsum n (addn K k c) d = nsum n K d + term n d (k, c)
  | [], k, c => by simp [nsum, addn]
  | p :: K, k, c => by
    have ih := nsum_addn n d K k c
    unfold addn
    split
    · rename_i e
      subst e
      have h := term_add n d p.1 p.2 c
      simp only [nsum, List.map_cons, List.sum_cons] at ih ⊢
      have : term n d (p.1, p.2) = term n d p := rfl
      omega
    · simp only [nsum, List.map_cons, List.sum_cons] at ih ⊢
      omega
/-- K tells what the lot leaves -/
def Num (n : Nat) (ms : List (List Nat)) (K : Nm) : Prop := ∀ d, nsum n K d = (left n ms d : Nat)
theorem left_cnt (n : Nat) (ms : List (List Nat)) (d : Nat) : left n ms d = cnt n d (fun m => !inI ms m) := by
  have := cnt_not n d (inI ms)
  unfold left iA
  omega
theorem inI_nil (m : List Nat) : inI [] m = false := rfl
theorem inI_cons (x : List Nat) (ms : List (List Nat)) (m : List Nat) : inI (x :: ms) m = (dv x m || inI ms m) := by simp [inI]
theorem inI_append (a b : List (List Nat)) (m : List Nat) : inI (a ++ b) m = (inI a m || inI b m) := by simp [inI]
theorem cnt_split (n d : Nat) (A B : WS) : cnt n d A = cnt n d (fun m => A m && B m) + cnt n d (fun m => A m && !B m) := by
  have h := cnt_or n d (fun m => A m && B m) (fun m => A m && !B m)
  have e1 : cnt n d (fun m => (A m && B m) || (A m && !B m)) = cnt n d A := cnt_congr _ _ _ _ fun m _ _ => by cases A m <;> cases B m <;> rfl
  have e2 : cnt n d (fun m => (A m && B m) && (A m && !B m)) = 0 := (cnt_congr _ _ _ (fun _ => false) fun m _ _ => by cases A m <;> cases B m <;> rfl).trans (cnt_none n d)
  omega
/-- one member more, by a product: what is left less what it takes away -/
theorem left_snoc {n : Nat} {ms : List (List Nat)} {x : List Nat} (hx : x.length = n) (d : Nat) :
    left n (ms ++ [x]) d + (if x.sum ≤ d then cnt n (d - x.sum) (fun m => !inI ms (addw x m)) else 0) = left n ms d := by
  rw [left_cnt, left_cnt]
  have h1 := cnt_split n d (fun m => !inI ms m) (dv x)
  have h2 := shiftP x n d (fun m => !inI ms m) hx
  have e1 : cnt n d (fun m => dv x m && !inI ms m) = cnt n d (fun m => !inI ms m && dv x m) := cnt_congr _ _ _ _ fun m _ _ => Bool.and_comm _ _
  have e2 : cnt n d (fun m => !inI (ms ++ [x]) m) = cnt n d (fun m => !inI ms m && !dv x m) := cnt_congr _ _ _ _ fun m _ _ => by
    rw [inI_append]
    cases inI ms m <;> simp [inI]
  rw [e2, ← h2, e1]
  omega
/-! the law's numerator: sums over the common multiples -/
def joinw : List Nat → List Nat → List Nat
  | x :: xs, y :: ys => max x y :: joinw xs ys
  | _, _ => []
theorem joinw_len : ∀ {x y : List Nat}, x.length = y.length → (joinw x y).length = x.length
  | [], [], _ => rfl
  | x :: xs, y :: ys, h => by simp [joinw, joinw_len (show xs.length = ys.length by simpa using h)]
theorem dv_joinw : ∀ {x y m : List Nat}, x.length = y.length → x.length = m.length → dv (joinw x y) m = (dv x m && dv y m)
  | [], [], m, _, _ => by simp [dv, joinw]
  | x :: xs, y :: ys, [], _, h => by simp at h
  | x :: xs, y :: ys, m :: ms, h, h2 => by
    have ih := dv_joinw (x := xs) (y := ys) (m := ms) (by simpa using h) (by simpa using h2)
    simp only [dv, joinw, ih]
    have e : decide (max x y ≤ m) = (decide (x ≤ m) && decide (y ≤ m)) := by
      rw [← Bool.decide_and]
      exact decide_eq_decide.mpr (by omega)
    rw [e]
    cases decide (x ≤ m) <;> cases decide (y ≤ m) <;> cases dv xs ms <;> rfl
abbrev Rows := List (List Nat × Int)
def rowStep (rows : Rows) (x : List Nat) : Rows := rows ++ rows.map fun q => (joinw q.1 x, -q.2)
def rsum (rows : Rows) (f : List Nat → Int) : Int := (rows.map fun q => q.2 * f q.1).sum
theorem rsum_append (a b : Rows) (f : List Nat → Int) : rsum (a ++ b) f = rsum a f + rsum b f := by simp [rsum]
theorem rsum_neg (rows : Rows) (x : List Nat) (f : List Nat → Int) : rsum (rows.map fun q => (joinw q.1 x, -q.2)) f = - rsum rows (fun p => f (joinw p x)) := by
  induction rows with
  | nil => rfl
  | cons q rows ih =>
    simp only [rsum, List.map_cons, List.sum_cons] at ih ⊢
    rw [ih, Int.neg_mul]
    omega
theorem rsum_congr {rows : Rows} {f g : List Nat → Int} (h : ∀ q ∈ rows, f q.1 = g q.1) : rsum rows f = rsum rows g := by
  induction rows with
  | nil => rfl
  | cons q rows ih =>
    simp only [rsum, List.map_cons, List.sum_cons] at ih ⊢
    rw [ih fun r hr => h r (by simp [hr]), h q (by simp)]
/-- rows: all of n letters, their signed sum is what no member divides -/
structure RowsOk (n : Nat) (ms : List (List Nat)) (rows : Rows) : Prop where
  len : ∀ q ∈ rows, q.1.length = n
  sum : ∀ (d : Nat) (A : WS), rsum rows (fun p => (cnt n d (fun m => dv p m && A m) : Nat)) = (cnt n d (fun m => !inI ms m && A m) : Nat)
theorem rows_start (n : Nat) : RowsOk n [] [(List.replicate n 0, 1)] := by
  refine ⟨fun q hq => by simp at hq; simp [hq], fun d A => ?_⟩
  simp only [rsum, List.map_cons, List.map_nil, List.sum_cons, List.sum_nil, Int.one_mul, Int.add_zero]
  have z : ∀ n (m : List Nat), dv (List.replicate n 0) m = true := fun n => by
    induction n with
    | zero => intro m; simp [dv]
    | succ n ih => intro m; cases m with
      | nil => simp [List.replicate_succ, dv]
      | cons k m => simp [List.replicate_succ, dv, ih m]
  have e : cnt n d (fun m => dv (List.replicate n 0) m && A m) = cnt n d (fun m => !inI [] m && A m) := cnt_congr _ _ _ _ fun m _ _ => by rw [z, inI_nil]; rfl
  rw [e]
theorem rows_step {n : Nat} {ms : List (List Nat)} {rows : Rows} (R : RowsOk n ms rows) {x : List Nat} (hx : x.length = n) : RowsOk n (ms ++ [x]) (rowStep rows x) := by
  refine ⟨fun q hq => ?_, fun d A => ?_⟩
  · rcases List.mem_append.mp hq with h | h
    · exact R.len q h
    · obtain ⟨r, hr, rfl⟩ := List.mem_map.mp h
      have := R.len r hr
      rw [joinw_len (this.trans hx.symm)]
      exact this
  · unfold rowStep
    rw [rsum_append, rsum_neg, R.sum d A]
    have e1 : rsum rows (fun p => (cnt n d (fun m => dv (joinw p x) m && A m) : Nat)) = rsum rows (fun p => (cnt n d (fun m => dv p m && (dv x m && A m)) : Nat)) := rsum_congr fun q hq => by
      have hl := R.len q hq
      have : cnt n d (fun m => dv (joinw q.1 x) m && A m) = cnt n d (fun m => dv q.1 m && (dv x m && A m)) := cnt_congr _ _ _ _ fun m hm _ => by
        rw [dv_joinw (hl.trans hx.symm) (hl.trans hm.symm), Bool.and_assoc]
      rw [this]
    rw [e1, R.sum d (fun m => dv x m && A m)]
    have h2 := cnt_split n d (fun m => !inI ms m && A m) (dv x)
    have e2 : cnt n d (fun m => (!inI ms m && A m) && dv x m) = cnt n d (fun m => !inI ms m && (dv x m && A m)) := cnt_congr _ _ _ _ fun m _ _ => by cases inI ms m <;> cases A m <;> cases dv x m <;> rfl
    have e3 : cnt n d (fun m => (!inI ms m && A m) && !dv x m) = cnt n d (fun m => !inI (ms ++ [x]) m && A m) := cnt_congr _ _ _ _ fun m _ _ => by
      rw [inI_append]
      cases inI ms m <;> cases A m <;> cases e : dv x m <;> simp [inI, e]
    rw [← e3, ← e2]
    omega
theorem rsum_term {n : Nat} {rows : Rows} (hl : ∀ q ∈ rows, q.1.length = n) (d : Nat) : nsum n (rows.map fun q => (q.1.sum, q.2)) d = rsum rows (fun p => (cnt n d (dv p) : Nat)) := by
  induction rows with
  | nil => rfl
  | cons q rows ih =>
    have h := ih fun r hr => hl r (by simp [hr])
    simp only [nsum, rsum, List.map_cons, List.sum_cons] at h ⊢
    rw [h, cnt_dv (hl q (by simp))]
    have : term n d (q.1.sum, q.2) = q.2 * ((if q.1.sum ≤ d then nn n (d - q.1.sum) else 0 : Nat) : Int) := by
      unfold term
      dsimp only
      split
      · rfl
      · simp
    rw [this]
/-- the law's dict: rows added up -/
def lawNum (rows : Rows) : Nm := rows.foldl (fun K q => addn K q.1.sum q.2) []
theorem nsum_fold (n d : Nat) : ∀ (rows : Rows) (K : Nm), nsum n (rows.foldl (fun K q => addn K q.1.sum q.2) K) d = nsum n K d + nsum n (rows.map fun q => (q.1.sum, q.2)) d
  | [], K => by simp [nsum]
  | q :: rows, K => by
    rw [List.foldl_cons, nsum_fold n d rows, nsum_addn]
    simp only [nsum, List.map_cons, List.sum_cons]
    omega
theorem lawNum_ok {n : Nat} {ms : List (List Nat)} {rows : Rows} (R : RowsOk n ms rows) : Num n ms (lawNum rows) := fun d => by
  unfold lawNum
  rw [nsum_fold, rsum_term R.len]
  have h := R.sum d (fun _ => true)
  have e : rsum rows (fun p => (cnt n d (dv p) : Nat)) = rsum rows (fun p => (cnt n d (fun m => dv p m && true) : Nat)) := rsum_congr fun q _ => by
    have : cnt n d (dv q.1) = cnt n d (fun m => dv q.1 m && true) := cnt_congr _ _ _ _ fun m _ _ => by rw [Bool.and_true]
    rw [this]
  have e2 : cnt n d (fun m => !inI ms m && true) = left n ms d := by
    rw [left_cnt]
    exact cnt_congr _ _ _ _ fun m _ _ => by rw [Bool.and_true]
  rw [e, h, e2]
  simp [nsum]
def rowsOf (n : Nat) (ms : List (List Nat)) : Rows := ms.foldl rowStep [(List.replicate n 0, 1)]
theorem rowsOf_ok {n : Nat} : ∀ {ms : List (List Nat)}, (∀ x ∈ ms, x.length = n) → RowsOk n ms (rowsOf n ms) := by
  have key : ∀ (ms ms0 : List (List Nat)) (rows : Rows), RowsOk n ms0 rows → (∀ x ∈ ms, x.length = n) → RowsOk n (ms0 ++ ms) (ms.foldl rowStep rows) := by
    intro ms
    induction ms with
    | nil => intro ms0 rows R _; rw [List.append_nil]; exact R
    | cons x ms ih =>
      intro ms0 rows R h
      rw [List.foldl_cons, show ms0 ++ x :: ms = (ms0 ++ [x]) ++ ms by simp]
      exact ih _ _ (rows_step R (h x (by simp))) fun y hy => h y (by simp [hy])
  intro ms h
  exact key ms [] _ (rows_start n) h
/-! shifted numerators -/
theorem nsum_shift (n e d : Nat) (K : Nm) : nsum n (K.map fun p => (p.1 + e, p.2)) d = if e ≤ d then nsum n K (d - e) else 0 := by
  have h : ∀ p : Nat × Int, term n d (p.1 + e, p.2) = if e ≤ d then term n (d - e) p else 0 := fun p => by
    unfold term
    dsimp only
    by_cases h1 : e ≤ d
    · rw [if_pos h1]
      by_cases h2 : p.1 + e ≤ d
      · rw [if_pos h2, if_pos (by omega), show d - (p.1 + e) = d - e - p.1 by omega]
      · rw [if_neg h2, if_neg (by omega)]
    · rw [if_neg h1, if_neg (by omega)]
  induction K with
  | nil => simp [nsum]
  | cons p K ih =>
    simp only [nsum, List.map_cons, List.sum_cons] at ih ⊢
    rw [ih, h p]
    split <;> omega
theorem nsum_neg (n d : Nat) (K : Nm) : nsum n (K.map fun p => (p.1, -p.2)) d = - nsum n K d := by
  induction K with
  | nil => rfl
  | cons p K ih =>
    simp only [nsum, List.map_cons, List.sum_cons] at ih ⊢
    rw [ih]
    have : term n d (p.1, -p.2) = - term n d p := by
      unfold term
      dsimp only
      split
      · rw [Int.neg_mul]
      · rfl
    omega
/-- all pairs of a list added into a dict -/
def addAll (K L : Nm) : Nm := L.foldl (fun K p => addn K p.1 p.2) K
theorem nsum_addAll (n d : Nat) : ∀ (L K : Nm), nsum n (addAll K L) d = nsum n K d + nsum n L d
  | [], K => by simp [nsum, addAll]
  | p :: L, K => by
    unfold addAll
    rw [List.foldl_cons]
    have h := nsum_addAll n d L (addn K p.1 p.2)
    unfold addAll at h
    rw [h, nsum_addn]
    simp only [nsum, List.map_cons, List.sum_cons]
    have : term n d (p.1, p.2) = term n d p := rfl
    omega
/-- members without a letter in common: one more -/
def apart1 (K : Nm) (s : Nat) : Nm := addAll K (K.map fun p => (p.1 + s, -p.2))
theorem dv_addw : ∀ {y x m : List Nat}, y.length = x.length → x.length = m.length → (∀ i, y.getD i 0 = 0 ∨ x.getD i 0 = 0) → dv y (addw x m) = dv y m
  | [], _, _, _, _, _ => by simp [dv]
  | y :: ys, [], _, h, _, _ => by simp at h
  | y :: ys, x :: xs, [], _, h, _ => by simp at h
  | y :: ys, x :: xs, m :: ms, h1, h2, h => by
    have ih := dv_addw (y := ys) (x := xs) (m := ms) (by simpa using h1) (by simpa using h2) fun i => by
      have := h (i + 1)
      simpa using this
    have h0 := h 0
    simp at h0
    simp only [addw, dv, ih]
    have e : decide (y ≤ x + m) = decide (y ≤ m) := decide_eq_decide.mpr (by omega)
    rw [e]
theorem apart_step {n : Nat} {ms : List (List Nat)} {K : Nm} (h : Num n ms K) {x : List Nat} (hx : x.length = n) (hm : ∀ y ∈ ms, y.length = n) (ha : ∀ y ∈ ms, ∀ i, y.getD i 0 = 0 ∨ x.getD i 0 = 0) : Num n (ms ++ [x]) (apart1 K x.sum) := fun d => by
  unfold apart1
  rw [nsum_addAll, show (K.map fun p => (p.1 + x.sum, -p.2)) = ((K.map fun p => (p.1, -p.2)).map fun p => (p.1 + x.sum, p.2)) by rw [List.map_map]; rfl, nsum_shift, nsum_neg, h d]
  have h1 := left_snoc (ms := ms) hx d
  by_cases e : x.sum ≤ d
  · rw [if_pos e] at h1 ⊢
    have e1 : cnt n (d - x.sum) (fun m => !inI ms (addw x m)) = left n ms (d - x.sum) := by
      rw [left_cnt]
      refine cnt_congr _ _ _ _ fun m hl _ => ?_
      have : inI ms (addw x m) = inI ms m := by
        unfold inI
        rw [Bool.eq_iff_iff, List.any_eq_true, List.any_eq_true]
        constructor
        · rintro ⟨y, h1, h2⟩
          exact ⟨y, h1, by rw [← dv_addw ((hm y h1).trans hx.symm) (hx.trans hl.symm) (ha y h1)]; exact h2⟩
        · rintro ⟨y, h1, h2⟩
          exact ⟨y, h1, by rw [dv_addw ((hm y h1).trans hx.symm) (hx.trans hl.symm) (ha y h1)]; exact h2⟩
      rw [this]
    rw [e1] at h1
    rw [h (d - x.sum)]
    omega
  · rw [if_neg e] at h1 ⊢
    omega
theorem num_nil (n : Nat) : Num n [] [(0, 1)] := fun d => by
  rw [left_cnt]
  simp only [nsum, term, List.map_cons, List.map_nil, List.sum_cons, List.sum_nil]
  rw [if_pos (Nat.zero_le _)]
  have : cnt n d (fun m => !inI [] m) = nn n d := cnt_congr _ _ _ _ fun m _ _ => by rw [inI_nil]; rfl
  rw [this]
  simp
theorem num_all {n : Nat} {x : List Nat} (hx : x.sum = 0) : Num n [x] [] := fun d => by
  rw [left_cnt]
  have z : ∀ (x m : List Nat), x.sum = 0 → dv x m = true := fun x => by
    induction x with
    | nil => intro m _; simp [dv]
    | cons k x ih => intro m h; cases m with
      | nil => simp [dv]
      | cons l m =>
        simp at h
        simp [dv, ih m h.2]
        omega
  have : cnt n d (fun m => !inI [x] m) = cnt n d (fun _ => false) := cnt_congr _ _ _ _ fun m _ _ => by simp [inI, z x m hx]
  rw [this, cnt_none]
  rfl
/-! the split by a power of one letter -/
def lessA : List Nat → Nat → Nat → List Nat
  | [], _, _ => []
  | k :: m, 0, e => (k - e) :: m
  | k :: m, i + 1, e => k :: lessA m i e
def pow1 : Nat → Nat → Nat → List Nat
  | 0, _, _ => []
  | n + 1, 0, e => e :: List.replicate n 0
  | n + 1, i + 1, e => 0 :: pow1 n i e
theorem pow1_len : ∀ n i e, (pow1 n i e).length = n
  | 0, _, _ => rfl
  | n + 1, 0, e => by simp [pow1]
  | n + 1, i + 1, e => by simp [pow1, pow1_len n i e]
theorem pow1_sum : ∀ n i e, i < n → (pow1 n i e).sum = e
  | n + 1, 0, e, _ => by simp [pow1]
  | n + 1, i + 1, e, h => by simp [pow1, pow1_sum n i e (by omega)]
theorem dv_zero : ∀ n (m : List Nat), dv (List.replicate n 0) m = true
  | 0, m => by simp [dv]
  | n + 1, [] => by simp [List.replicate_succ, dv]
  | n + 1, k :: m => by simp [List.replicate_succ, dv, dv_zero n m]
theorem dv_pow1 : ∀ {n i e : Nat} {m : List Nat}, m.length = n → i < n → dv (pow1 n i e) m = decide (e ≤ m.getD i 0)
  | n + 1, 0, e, k :: m, _, _ => by simp [pow1, dv, dv_zero]
  | n + 1, i + 1, e, k :: m, hl, h => by
    have := dv_pow1 (n := n) (i := i) (e := e) (m := m) (by simpa using hl) (by omega)
    simp [pow1, dv, this]
  | n + 1, 0, e, [], hl, _ => by simp at hl
  | n + 1, i + 1, e, [], hl, _ => by simp at hl
theorem addw_zero : ∀ n (m : List Nat), addw (List.replicate n 0) m = m
  | 0, m => by simp [addw]
  | n + 1, [] => by simp [List.replicate_succ, addw]
  | n + 1, k :: m => by simp [List.replicate_succ, addw, addw_zero n m]
theorem dv_lessA : ∀ {n i e : Nat} {y m : List Nat}, y.length = n → m.length = n → i < n → dv y (addw (pow1 n i e) m) = dv (lessA y i e) m
  | n + 1, 0, e, y :: ys, k :: m, _, _, _ => by
    simp only [pow1, addw, addw_zero, dv, lessA]
    have : decide (y ≤ e + k) = decide (y - e ≤ k) := decide_eq_decide.mpr (by omega)
    rw [this]
  | n + 1, i + 1, e, y :: ys, k :: m, h1, h2, h => by
    have ih := dv_lessA (n := n) (i := i) (e := e) (y := ys) (m := m) (by simpa using h1) (by simpa using h2) (by omega)
    simp only [pow1, addw, dv, lessA, ih, Nat.zero_add]
  | n + 1, _, e, [], _, h1, _, _ => by simp at h1
  | n + 1, _, e, _ :: _, [], _, h2, _ => by simp at h2
theorem dv_getD : ∀ {x m : List Nat} (i : Nat), x.length = m.length → dv x m = true → x.getD i 0 ≤ m.getD i 0
  | [], [], i, _, _ => by simp
  | x :: xs, k :: m, 0, _, h => by
    simp only [dv, Bool.and_eq_true, decide_eq_true_eq] at h
    simpa using h.1
  | x :: xs, k :: m, i + 1, hl, h => by
    simp only [dv, Bool.and_eq_true, decide_eq_true_eq] at h
    have := dv_getD (x := xs) (m := m) i (by simpa using hl) h.2
    simpa using this
/-- two lists that tell the same lot -/
def SameLot (n : Nat) (a b : List (List Nat)) : Prop := ∀ m : List Nat, m.length = n → inI a m = inI b m
theorem left_same {n : Nat} {a b : List (List Nat)} (h : SameLot n a b) (d : Nat) : left n a d = left n b d := by
  rw [left_cnt, left_cnt]
  exact cnt_congr _ _ _ _ fun m hl _ => by rw [h m hl]
theorem split_ok {n i e : Nat} (hi : i < n) {ms l2 : List (List Nat)} {K1 K2 : Nm} (hm : ∀ x ∈ ms, x.length = n) (h2 : SameLot n l2 (ms.map fun x => lessA x i e))
    (k1 : Num n (ms.filter (fun x => decide (x.getD i 0 < e)) ++ [pow1 n i e]) K1) (k2 : Num n l2 K2) : Num n ms (addAll K1 (K2.map fun p => (p.1 + e, p.2))) := fun d => by
  rw [nsum_addAll, nsum_shift, k1 d]
  have hp := pow1_len n i e
  have a1 := cnt_split n d (fun m => !inI ms m) (dv (pow1 n i e))
  have a2 := shiftP (pow1 n i e) n d (fun m => !inI ms m) hp
  rw [pow1_sum n i e hi] at a2
  have e1 : cnt n d (fun m => dv (pow1 n i e) m && !inI ms m) = cnt n d (fun m => !inI ms m && dv (pow1 n i e) m) := cnt_congr _ _ _ _ fun m _ _ => Bool.and_comm _ _
  have e2 : cnt n d (fun m => !inI ms m && !dv (pow1 n i e) m) = left n (ms.filter (fun x => decide (x.getD i 0 < e)) ++ [pow1 n i e]) d := by
    rw [left_cnt]
    refine cnt_congr _ _ _ _ fun m hl _ => ?_
    rw [inI_append, inI_cons, inI_nil, Bool.or_false, dv_pow1 hl hi]
    by_cases c : e ≤ m.getD i 0
    · rw [decide_eq_true c]
      cases inI ms m <;> cases inI (ms.filter _) m <;> rfl
    · rw [decide_eq_false c, Bool.or_false, Bool.not_false, Bool.and_true]
      have : inI ms m = inI (ms.filter (fun x => decide (x.getD i 0 < e))) m := by
        rw [Bool.eq_iff_iff, inI_iff, inI_iff]
        constructor
        · rintro ⟨x, h1, h2⟩
          refine ⟨x, List.mem_filter.mpr ⟨h1, decide_eq_true ?_⟩, h2⟩
          have := dv_getD i ((hm x h1).trans hl.symm) h2
          omega
        · rintro ⟨x, h1, h2⟩
          exact ⟨x, (List.mem_filter.mp h1).1, h2⟩
      rw [this]
  have e3 : ∀ d', cnt n d' (fun m => !inI ms (addw (pow1 n i e) m)) = left n l2 d' := fun d' => by
    rw [left_cnt]
    refine cnt_congr _ _ _ _ fun m hl _ => ?_
    rw [h2 m hl]
    have : inI ms (addw (pow1 n i e) m) = inI (ms.map fun x => lessA x i e) m := by
      rw [Bool.eq_iff_iff, inI_iff, inI_iff]
      constructor
      · rintro ⟨x, h1, h3⟩
        exact ⟨_, List.mem_map.mpr ⟨x, h1, rfl⟩, by rw [← dv_lessA (hm x h1) hl hi]; exact h3⟩
      · rintro ⟨y, h1, h3⟩
        obtain ⟨x, h4, rfl⟩ := List.mem_map.mp h1
        exact ⟨x, h4, by rw [dv_lessA (hm x h4) hl hi]; exact h3⟩
    rw [this]
  rw [left_cnt n ms d]
  rw [e1] at a2
  rw [e3] at a2
  by_cases c : e ≤ d
  · rw [if_pos c] at a2 ⊢
    rw [k2 (d - e)]
    omega
  · rw [if_neg c] at a2 ⊢
    omega
/-! equal numerators: ascending degrees, no number 0, the same sums -/
structure Canon (K : Nm) : Prop where
  asc : K.Pairwise fun p q => p.1 < q.1
  nz : ∀ p ∈ K, p.2 ≠ 0
theorem nsum_low {n : Nat} {K : Nm} {d : Nat} (h : ∀ p ∈ K, d < p.1) : nsum n K d = 0 := by
  induction K with
  | nil => rfl
  | cons p K ih =>
    have h1 := ih fun q hq => h q (by simp [hq])
    have h2 := h p (by simp)
    simp only [nsum, List.map_cons, List.sum_cons] at h1 ⊢
    rw [h1]
    unfold term
    rw [if_neg (by omega)]
    rfl
theorem nsum_head {n : Nat} {p : Nat × Int} {K : Nm} (h : ∀ q ∈ K, p.1 < q.1) : nsum n (p :: K) p.1 = p.2 := by
  have h1 := nsum_low (n := n) h
  simp only [nsum, List.map_cons, List.sum_cons] at h1 ⊢
  rw [h1]
  unfold term
  rw [if_pos (Nat.le_refl _), Nat.sub_self, nn_zero]
  simp
theorem canon_eq {n : Nat} : ∀ {K L : Nm}, Canon K → Canon L → (∀ d, nsum n K d = nsum n L d) → K = L
  | [], [], _, _, _ => rfl
  | p :: K, [], hK, _, h => by
    have h1 := h p.1
    rw [nsum_head (List.pairwise_cons.mp hK.asc).1] at h1
    exact absurd h1 (hK.nz p (by simp))
  | [], p :: L, _, hL, h => by
    have h1 := h p.1
    rw [nsum_head (List.pairwise_cons.mp hL.asc).1] at h1
    exact absurd h1.symm (hL.nz p (by simp))
  | p :: K, q :: L, hK, hL, h => by
    obtain ⟨a1, a2⟩ := List.pairwise_cons.mp hK.asc
    obtain ⟨b1, b2⟩ := List.pairwise_cons.mp hL.asc
    have le : ∀ {p q : Nat × Int} {K L : Nm}, (∀ r ∈ K, p.1 < r.1) → (∀ r ∈ L, q.1 < r.1) → p.2 ≠ 0 → nsum n (p :: K) p.1 = nsum n (q :: L) p.1 → ¬ p.1 < q.1 := fun {p q K L} h1 h2 h3 h4 z => by
      rw [nsum_head h1, nsum_low (K := q :: L) fun r hr => by
        rcases List.mem_cons.mp hr with e | e
        · rw [e]; exact z
        · have := h2 r e
          omega] at h4
      exact h3 h4
    have c1 := le a1 b1 (hK.nz p (by simp)) (h p.1)
    have c2 := le b1 a1 (hL.nz q (by simp)) (h q.1).symm
    have e1 : p.1 = q.1 := by omega
    have e2 : p.2 = q.2 := by
      have h1 := h p.1
      rw [nsum_head a1, e1, nsum_head b1] at h1
      exact h1
    have e : p = q := Prod.ext e1 e2
    subst e
    have h3 : ∀ d, nsum n K d = nsum n L d := fun d => by
      have := h d
      simp only [nsum, List.map_cons, List.sum_cons] at this ⊢
      omega
    rw [canon_eq ⟨a2, fun r hr => hK.nz r (by simp [hr])⟩ ⟨b2, fun r hr => hL.nz r (by simp [hr])⟩ h3]
/-! the first lot with told numbers -/
/-- the least members of the first lot, up to a degree: a d words in degree d -/
def dueAt (n : Nat) (a : Nat → Nat) (d : Nat) : List (List Nat) := ((words n d).take (a d)).drop (F n (a (d - 1)))
def due (n : Nat) (a : Nat → Nat) : Nat → List (List Nat)
  | 0 => []
  | d + 1 => due n a d ++ dueAt n a (d + 1)
theorem mem_dueAt {n : Nat} {a : Nat → Nat} {d : Nat} {x : List Nat} : x ∈ dueAt n a d ↔ x.length = n ∧ x.sum = d ∧ F n (a (d - 1)) ≤ pos x ∧ pos x < a d := by
  unfold dueAt
  rw [List.mem_iff_getElem?]
  constructor
  · rintro ⟨i, h⟩
    rw [List.getElem?_drop, List.getElem?_take] at h
    split at h
    · rename_i c
      obtain ⟨h1, h2, h3⟩ := words_at _ _ _ _ h
      exact ⟨h1, h2, by omega, by omega⟩
    · cases h
  · rintro ⟨h1, h2, h3, h4⟩
    refine ⟨pos x - F n (a (d - 1)), ?_⟩
    rw [List.getElem?_drop, List.getElem?_take, if_pos (by omega), show F n (a (d - 1)) + (pos x - F n (a (d - 1))) = pos x by omega]
    exact words_of n d x h1 h2
theorem mem_due {n : Nat} {a : Nat → Nat} {x : List Nat} : ∀ {l : Nat}, x ∈ due n a l ↔ x.length = n ∧ 0 < x.sum ∧ x.sum ≤ l ∧ F n (a (x.sum - 1)) ≤ pos x ∧ pos x < a x.sum
  | 0 => by
    constructor
    · intro h; cases h
    · intro h; omega
  | l + 1 => by
    unfold due
    rw [List.mem_append, mem_due, mem_dueAt]
    constructor
    · rintro (h | ⟨h1, h2, h3, h4⟩)
      · exact ⟨h.1, h.2.1, by omega, h.2.2.2⟩
      · rw [← h2] at h3 h4
        exact ⟨h1, by omega, by omega, h3, h4⟩
    · rintro ⟨h1, h2, h3, h4, h5⟩
      by_cases e : x.sum = l + 1
      · right
        rw [e] at h4 h5
        exact ⟨h1, e, h4, h5⟩
      · left
        exact ⟨h1, h2, by omega, h4, h5⟩
/-- numbers that grow at least as first words do -/
structure Grows (n : Nat) (a : Nat → Nat) : Prop where
  zero : a 0 = 0
  low : ∀ d, F n (a d) ≤ a (d + 1)
  top : ∀ d, a d ≤ nn n d
theorem due_in {n : Nat} (hn : n ≤ 4) {a : Nat → Nat} (G : Grows n a) {l : Nat} : ∀ (d : Nat) (m : List Nat), m.length = n → m.sum = d → d ≤ l → (inI (due n a l) m = true ↔ pos m < a d)
  | 0, m, hl, hs, _ => by
    rw [G.zero]
    constructor
    · intro h
      obtain ⟨x, h1, h2⟩ := inI_iff.mp h
      have h3 := mem_due.mp h1
      have := dv_sum (h3.1.trans hl.symm) h2
      omega
    · intro h; omega
  | d + 1, m, hl, hs, hd => by
    have ih := due_in hn G (l := l) d
    constructor
    · intro h
      obtain ⟨x, h1, h2⟩ := inI_iff.mp h
      have h3 := mem_due.mp h1
      by_cases e : x.sum = m.sum
      · have := dv_eq (h3.1.trans hl.symm) h2 e
        subst this
        rw [← hs]
        exact h3.2.2.2.2
      · have h4 := dv_sum (h3.1.trans hl.symm) h2
        have h5 := dv_up (h3.1.trans hl.symm) h2 (by omega)
        have h6 := up_le m _ (fun t => decide (pos t < a d)) (fun t c1 c2 c3 => decide_eq_true ((ih t (c1.trans hl) (by omega) (by omega)).mp (inI_iff.mpr ⟨x, h1, c3⟩))) h5
        have h7 := (lex_up hn (G.top d) m hl hs).mp h6
        have := G.low d
        omega
    · intro h
      by_cases e : pos m < F n (a d)
      · have h1 := (lex_up hn (G.top d) m hl hs).mpr e
        refine up_inI (fun x hx => (mem_due.mp hx).1.trans hl.symm) (up_le m _ _ (fun t c1 c2 c3 => (ih t (c1.trans hl) (by omega) (by omega)).mpr (of_decide_eq_true c3)) h1)
      · refine inI_iff.mpr ⟨m, mem_due.mpr ⟨hl, by omega, by omega, ?_, ?_⟩, dv_refl m⟩
        · rw [hs, Nat.add_sub_cancel]
          omega
        · rw [hs]
          exact h
theorem due_iA {n : Nat} (hn : n ≤ 4) {a : Nat → Nat} (G : Grows n a) {l : Nat} (hl : ∀ d, l ≤ d → a (d + 1) = F n (a d)) : ∀ d, iA n (due n a l) d = a d := by
  have low : ∀ d, d ≤ l → iA n (due n a l) d = a d := fun d hd => by
    have h1 : iA n (due n a l) d = cnt n d (fun m => decide (pos m < a d)) := cnt_congr _ _ _ _ fun m h2 h3 => by
      rw [Bool.eq_iff_iff, due_in hn G d m h2 h3 hd, decide_eq_true_iff]
    have := G.top d
    rw [h1, cnt_pos]
    omega
  have all : ∀ c, iA n (due n a l) (l + c) = a (l + c) ∧ ∀ m : List Nat, m.length = n → m.sum = l + c → (inI (due n a l) m = true ↔ pos m < a (l + c)) := fun c => by
    induction c with
    | zero => exact ⟨low l (Nat.le_refl _), fun m h1 h2 => due_in hn G l m h1 h2 (Nat.le_refl _)⟩
    | succ c ih =>
      obtain ⟨i1, i2⟩ := ih
      have h0 := hl (l + c) (by omega)
      have key : ∀ m : List Nat, m.length = n → m.sum = l + (c + 1) → (inI (due n a l) m = true ↔ pos m < a (l + (c + 1))) := fun m h1 h2 => by
        rw [← Nat.add_assoc, h0, ← lex_up hn (G.top (l + c)) m h1 (by omega)]
        have hx : ∀ x ∈ due n a l, x.length = m.length := fun x hx => (mem_due.mp hx).1.trans h1.symm
        constructor
        · intro h
          exact up_le m _ _ (fun t c1 c2 c3 => decide_eq_true ((i2 t (c1.trans h1) (by omega)).mp c3)) (inI_up hx (fun x hx => by have := (mem_due.mp hx).2.2.1; omega) h)
        · intro h
          exact up_inI hx (up_le m _ _ (fun t c1 c2 c3 => (i2 t (c1.trans h1) (by omega)).mpr (of_decide_eq_true c3)) h)
      refine ⟨?_, key⟩
      have h1 : iA n (due n a l) (l + (c + 1)) = cnt n (l + (c + 1)) (fun m => decide (pos m < a (l + (c + 1)))) := cnt_congr _ _ _ _ fun m h2 h3 => by
        rw [Bool.eq_iff_iff, key m h2 h3, decide_eq_true_iff]
      have := G.top (l + (c + 1))
      rw [h1, cnt_pos]
      omega
  intro d
  by_cases h : d ≤ l
  · exact low d h
  · have := (all (d - l)).1
    rw [show l + (d - l) = d by omega] at this
    exact this
/-- no due member divides another -/
theorem due_apart {n : Nat} (hn : n ≤ 4) {a : Nat → Nat} (G : Grows n a) {l : Nat} {x y : List Nat} (hx : x ∈ due n a l) (hy : y ∈ due n a l) (h : dv x y = true) : x = y := by
  have h1 := mem_due.mp hx
  have h2 := mem_due.mp hy
  have h3 := dv_sum (h1.1.trans h2.1.symm) h
  by_cases e : x.sum = y.sum
  · exact dv_eq (h1.1.trans h2.1.symm) h e
  · have h5 := dv_up (h1.1.trans h2.1.symm) h (by omega)
    have h6 := up_le y _ (fun t => decide (pos t < a (y.sum - 1))) (fun t c1 c2 c3 => decide_eq_true ((due_in hn G (l := l) (y.sum - 1) t (c1.trans h2.1) (by omega) (by omega)).mp (inI_iff.mpr ⟨x, hx, c3⟩))) h5
    have h7 := (lex_up hn (G.top (y.sum - 1)) y h2.1 (by omega)).mp h6
    omega
end PL
end
section
set_option Elab.async false
namespace PL
theorem ch_mul : ∀ n k : Nat, ch n (k + 1) * (k + 1) = ch n k * (n - k)
  | 0, k => by cases k <;> simp [ch]
  | n + 1, 0 => by rw [ch_one, ch_zero]; omega
  | n + 1, k + 1 => by
    have i1 := ch_mul n (k + 1)
    have i2 := ch_mul n k
    rw [ch_succ n (k + 1), ch_succ n k, show n + 1 - (k + 1) = n - k by omega, Nat.add_mul, i1, Nat.add_mul, ← i2]
    by_cases h : k + 1 ≤ n
    · obtain ⟨c, rfl⟩ : ∃ c, n = k + 1 + c := ⟨n - (k + 1), by omega⟩
      rw [show k + 1 + c - (k + 1) = c by omega, show k + 1 + c - k = c + 1 by omega]
      rw [Nat.mul_add, Nat.mul_add, Nat.mul_add]
      omega
    · rw [ch_big (show n < k + 1 by omega)]
      simp
theorem ch_up (n k : Nat) : ch (n + 1) k * (n + 1 - k) = ch n k * (n + 1) := by
  cases k with
  | zero => rw [ch_zero, ch_zero]; omega
  | succ k =>
    have i1 := ch_mul n k
    rw [ch_succ, show n + 1 - (k + 1) = n - k by omega, Nat.add_mul, ← i1]
    by_cases h : k ≤ n
    · rw [← Nat.mul_add]
      rw [show k + 1 + (n - k) = n + 1 by omega]
    · rw [ch_big (show n < k + 1 by omega)]
      simp
theorem ch_le_top {n k : Nat} (h : 0 < k) (hk : k ≤ n) : n + 1 ≤ ch n k + k := by
  induction n generalizing k with
  | zero => omega
  | succ n ih =>
    by_cases e : k = n + 1
    · subst e; rw [ch_self]; omega
    · obtain ⟨j, rfl⟩ : ∃ j, k = j + 1 := ⟨k - 1, by omega⟩
      have h1 := ih (k := j + 1) (by omega) (by omega)
      have h2 : 1 ≤ ch n j := by
        have := ch_mono (k := j) (show j ≤ n by omega)
        rw [ch_self] at this
        exact this
      rw [ch_succ]
      omega
end PL
end
section
set_option Elab.async false
namespace PL
/-- the shares of h, from a degree down -/
def shl : Nat → Nat → List (Nat × Nat)
  | 0, _ => []
  | i + 1, h => if h = 0 then [] else (gt h (i + 1), i + 1) :: shl i (h - ch (gt h (i + 1)) (i + 1))
theorem shl_zero : ∀ i, shl i 0 = []
  | 0 => rfl
  | i + 1 => by unfold shl; rw [if_pos rfl]
theorem shl_pos {i h : Nat} (h0 : 0 < h) : shl (i + 1) h = (gt h (i + 1), i + 1) :: shl i (h - ch (gt h (i + 1)) (i + 1)) := by
  show (if h = 0 then [] else _) = _
  rw [if_neg (by omega)]
theorem shl_sum : ∀ i h, ((shl i h).map fun p => ch (p.1 + 1) (p.2 + 1)).sum = bnd i h
  | 0, _ => rfl
  | i + 1, h => by
    unfold shl bnd
    split
    · rfl
    · rw [List.map_cons, List.sum_cons, shl_sum i]
theorem gt_one (h : Nat) : gt h 1 = h := gt_uniq (by omega) (by rw [ch_one]; exact Nat.le_refl _) (by rw [ch_one]; omega)
theorem gt_lo {h i : Nat} (hi : 0 < i) (h0 : 0 < h) : i ≤ gt h i := by
  obtain ⟨a, b⟩ := gt_spec (h := h) hi
  rcases Nat.lt_or_ge (gt h i) i with z | z
  · by_cases e : gt h i + 1 = i
    · rw [e, ch_self] at b; omega
    · rw [ch_big (by omega)] at b; omega
  · exact z
theorem gt_hi {h i : Nat} (hi : 0 < i) (h0 : 0 < h) : gt h i + 1 ≤ h + i := by
  have h1 := ch_le_top hi (gt_lo hi h0)
  have := (gt_spec (h := h) hi).1
  omega
/-- shares: how many, how great -/
theorem shl_mem : ∀ {i h : Nat} {p : Nat × Nat}, p ∈ shl i h → p.1 + 1 ≤ h + i ∧ 1 ≤ p.2 ∧ p.2 ≤ i
  | 0, _, _, hp => by cases hp
  | i + 1, h, p, hp => by
    by_cases e : h = 0
    · subst e; rw [shl_zero] at hp; cases hp
    · rw [shl_pos (by omega)] at hp
      rcases List.mem_cons.mp hp with z | z
      · subst z
        have := gt_hi (h := h) (i := i + 1) (by omega) (by omega)
        exact ⟨this, by show 1 ≤ i + 1; omega, Nat.le_refl _⟩
      · have := shl_mem z
        omega
theorem shl_len : ∀ i h, (shl i h).length ≤ i
  | 0, _ => Nat.le_refl _
  | i + 1, h => by
    unfold shl
    split
    · exact Nat.zero_le _
    · have := shl_len i (h - ch (gt h (i + 1)) (i + 1))
      simp
      omega
/-- the rest behind the share at 1 is 0 -/
theorem share_one (h : Nat) : h - ch (gt h 1) 1 = 0 := by rw [gt_one, ch_one]; omega
end PL
end
section
set_option Elab.async false
set_option linter.all false
set_option maxRecDepth 100000
set_option maxHeartbeats 2000000
namespace PLW
open PySem PySem.Spec PyProof.Rows L2 Evl
/-! relations between values and data, tuples kept -/
abbrev Rl := Hp → V → Prop
def Kp (H H' : Hp) : Prop := ∀ b u, (Rd H b (.tup u) → Rd H' b (.tup u)) ∧ (H b = some (.tup u) → H' b = some (.tup u))
theorem Kp.refl (H : Hp) : Kp H H := fun _ _ => ⟨fun h => h, fun h => h⟩
theorem Kp.trans {H H1 H2 : Hp} (a : Kp H H1) (b : Kp H1 H2) : Kp H H2 := fun c u => ⟨fun h => (b c u).1 ((a c u).1 h), fun h => (b c u).2 ((a c u).2 h)⟩
theorem Kp.ex {H H' : Hp} (e : Ex H H') : Kp H H' := fun _ _ => ⟨fun h => ex_rd e h, fun h => e _ _ h⟩
theorem Kp.put {H : Hp} {l : Addr} {o u : HO} (h : H l = some o) (n1 : ∀ xs, o ≠ .tup xs) (n2 : ∀ q xs, o ≠ .frz q (.tup xs)) : Kp H (upd H l u) := fun b v => ⟨fun hb => by
  have hne : b ≠ l := fun e => by
    subst e
    rcases hb with hb | ⟨q, hb⟩
    · rw [h] at hb; exact n1 _ (Option.some.inj hb)
    · rw [h] at hb; exact n2 _ _ (Option.some.inj hb)
  rcases hb with hb | ⟨q, hb⟩
  · exact .inl (by rw [upd_ne hne]; exact hb)
  · exact .inr ⟨q, by rw [upd_ne hne]; exact hb⟩, fun hb => by
  have hne : b ≠ l := fun e => by
    subst e
    rw [h] at hb; exact n1 _ (Option.some.inj hb)
  rw [upd_ne hne]; exact hb⟩
theorem Kp.lst {H : Hp} {l : Addr} {xs : List V} {u : HO} (h : H l = some (.lst xs)) : Kp H (upd H l u) := Kp.put h (fun _ z => by cases z) (fun _ _ z => by cases z)
theorem Kp.dK {H : Hp} {l : Addr} {kvs : List (Key × V)} {u : HO} (h : H l = some (.dK kvs)) : Kp H (upd H l u) := Kp.put h (fun _ z => by cases z) (fun _ _ z => by cases z)
def Stb (R : Rl) : Prop := ∀ {H H' : Hp} {v : V}, Kp H H' → R H v → R H' v
theorem Kp.sqT {K : PySem.W.Frag} {H H' : Hp} (k : Kp H H') {a : Addr} {xs : List V} (h : SqT K H a xs) : SqT K H' a xs := by
  rcases h with h | h
  · exact .inl ((k _ _).1 h)
  · exact .inr h
/-- a tuple of the values xs -/
def rT (K : PySem.W.Frag) (xs : List V) : Rl := fun H v => ∃ a, v = .ref a ∧ SqT K H a xs
theorem rT_stb (K : PySem.W.Frag) (xs : List V) : Stb (rT K xs) := fun k ⟨a, e, h⟩ => ⟨a, e, k.sqT h⟩
/-- a word: a tuple of natural numbers -/
def wV (m : List Nat) : List V := m.map fun k : Nat => V.int (k : Int)
def rW (K : PySem.W.Frag) (m : List Nat) : Rl := rT K (wV m)
theorem rW_stb (K : PySem.W.Frag) (m : List Nat) : Stb (rW K m) := rT_stb K _
/-- a word whose tuple stands in the heap -/
def rWh (m : List Nat) : Rl := fun H v => ∃ a, v = .ref a ∧ H a = some (.tup (wV m))
theorem rWh_stb (m : List Nat) : Stb (rWh m) := fun k ⟨a, e, h⟩ => ⟨a, e, (k _ _).2 h⟩
theorem rWh_W {K : PySem.W.Frag} {m : List Nat} {H : Hp} {v : V} : rWh m H v → rW K m H v := fun ⟨a, e, h⟩ => ⟨a, e, .inl (.inl h)⟩
def rInt (i : Int) : Rl := fun _ v => v = .int i
theorem rInt_stb (i : Int) : Stb (rInt i) := fun _ h => h
def rBl (b : Bool) : Rl := fun _ v => v = .bl b
theorem rBl_stb (b : Bool) : Stb (rBl b) := fun _ h => h
/-- values by place -/
def Pd {ι : Type} (R : ι → Rl) (H : Hp) (vs : List V) (is : List ι) : Prop := vs.length = is.length ∧ ∀ (j : Nat) (v : V) (i : ι), vs[j]? = some v → is[j]? = some i → R i H v
section
variable {ι : Type} {R : ι → Rl} {H H' : Hp} {vs us : List V} {is js : List ι}
theorem Pd.nil : Pd R H [] [] := ⟨rfl, fun j v i h => by simp at h⟩
theorem Pd.snoc {v : V} {i : ι} (p : Pd R H vs is) (h : R i H v) : Pd R H (vs ++ [v]) (is ++ [i]) := by
  refine ⟨by simp [p.1], fun j u k h1 h2 => ?_⟩
  by_cases e : j < vs.length
  · rw [List.getElem?_append_left e] at h1
    rw [List.getElem?_append_left (by rw [← p.1]; exact e)] at h2
    exact p.2 j u k h1 h2
  · rw [List.getElem?_append_right (by omega)] at h1
    rw [List.getElem?_append_right (by rw [← p.1]; omega), ← p.1] at h2
    have e0 : j - vs.length = 0 := by
      have := (List.getElem?_eq_some_iff.mp h1).1
      simp at this
      omega
    rw [e0] at h1 h2
    have a1 : v = u := by simpa using h1
    have a2 : i = k := by simpa using h2
    rw [← a1, ← a2]
    exact h
theorem Pd.keep (hs : ∀ i, Stb (R i)) (k : Kp H H') (p : Pd R H vs is) : Pd R H' vs is := ⟨p.1, fun j v i h1 h2 => hs i k (p.2 j v i h1 h2)⟩
theorem Pd.get {j : Nat} {v : V} (p : Pd R H vs is) (h : vs[j]? = some v) : ∃ i, is[j]? = some i ∧ R i H v := by
  have h1 := (List.getElem?_eq_some_iff.mp h).1
  have h2 : j < is.length := by rw [← p.1]; exact h1
  exact ⟨is[j], List.getElem?_eq_getElem h2, p.2 j v _ h (List.getElem?_eq_getElem h2)⟩
theorem Pd.at {j : Nat} {i : ι} (p : Pd R H vs is) (h : is[j]? = some i) : ∃ v, vs[j]? = some v ∧ R i H v := by
  have h1 := (List.getElem?_eq_some_iff.mp h).1
  have h2 : j < vs.length := by rw [p.1]; exact h1
  exact ⟨vs[j], List.getElem?_eq_getElem h2, p.2 j _ i (List.getElem?_eq_getElem h2) h⟩
theorem Pd.append (p : Pd R H vs is) (q : Pd R H us js) : Pd R H (vs ++ us) (is ++ js) := by
  refine ⟨by rw [List.length_append, List.length_append, p.1, q.1], fun j u k h1 h2 => ?_⟩
  by_cases e : j < vs.length
  · rw [List.getElem?_append_left e] at h1
    rw [List.getElem?_append_left (by rw [← p.1]; exact e)] at h2
    exact p.2 j u k h1 h2
  · rw [List.getElem?_append_right (by omega)] at h1
    rw [List.getElem?_append_right (by rw [← p.1]; omega), ← p.1] at h2
    exact q.2 _ u k h1 h2
theorem Pd.mem {v : V} (p : Pd R H vs is) (h : v ∈ vs) : ∃ i ∈ is, R i H v := by
  obtain ⟨j, hj⟩ := List.mem_iff_getElem?.mp h
  obtain ⟨i, h1, h2⟩ := p.get hj
  exact ⟨i, List.mem_iff_getElem?.mpr ⟨j, h1⟩, h2⟩
end
/-- a list (mutable, at its own place) of related values -/
def rL {ι : Type} (K : PySem.W.Frag) (R : ι → Rl) (is : List ι) : Rl := fun H v => ∃ a vs, v = .ref a ∧ SqL K H a vs ∧ Pd R H vs is
/-- a tuple of related values -/
def rTs {ι : Type} (K : PySem.W.Frag) (R : ι → Rl) (is : List ι) : Rl := fun H v => ∃ a vs, v = .ref a ∧ SqT K H a vs ∧ Pd R H vs is
theorem rL_ex {ι : Type} {K : PySem.W.Frag} {R : ι → Rl} {is : List ι} (hs : ∀ i, Stb (R i)) {H H' : Hp} {v : V} (e : Ex H H') (h : rL K R is H v) : rL K R is H' v := by
  obtain ⟨a, vs, e1, h1, h2⟩ := h
  exact ⟨a, vs, e1, ex_l e h1, h2.keep hs (Kp.ex e)⟩
theorem rTs_stb {ι : Type} {K : PySem.W.Frag} {R : ι → Rl} {is : List ι} (hs : ∀ i, Stb (R i)) : Stb (rTs K R is) := fun k ⟨a, vs, e1, h1, h2⟩ => ⟨a, vs, e1, k.sqT h1, h2.keep hs k⟩
/-! evaluation to some value that a relation holds of -/
def EvP (te : TE) (σ : L2.St) (H : Hp) (R : Rl) : Prop := ∀ H1, Ex H H1 → ∀ Q : VK, (∀ v H2, Ex H1 H2 → R H2 v → Q v H2) → te σ H1 Q
/-- a promise: from the values vs, some value that R holds of -/
def SpP (sp : Sp) (vs : List V) (H : Hp) (R : Rl) : Prop := ∀ H1, Ex H H1 → ∀ Q : VK, (∀ v H2, Ex H1 H2 → R H2 v → Q v H2) → sp vs H1 Q E0
/-- the usual promise: pre says of which values, then R -/
def spR (pre : List V → Hp → Rl → Prop) : Sp := fun vs H Q _ => ∃ R, pre vs H R ∧ ∀ v H2, Ex H H2 → R H2 v → Q v H2
section
variable {K : PySem.W.Frag} {σ : L2.St} {H H' : Hp} {ta tb te : TE} {v x : V} {R : Rl}
theorem EvP.mono (e : Ex H H') (h : EvP te σ H R) : EvP te σ H' R := fun H1 a Q q => h H1 (e.trans a) Q q
theorem EvP.of (h : Ev te σ H v) : EvP te σ H fun _ x => x = v := fun H1 e Q q => h H1 e Q fun H2 e2 => q v H2 e2 rfl
theorem EvP.ev (h : EvP te σ H fun _ x => x = v) : Ev te σ H v := fun H1 e Q q => h H1 e Q fun u H2 e2 r => by rw [r]; exact q H2 e2
theorem evp_call {sp : Sp} {vs : List V} {t : TA} (h : EvA t σ H vs) (hs : SpP sp (vs ++ []) H R) : EvP (tCall sp [] E0 t) σ H R := fun H1 e Q q =>
  h H1 e _ fun H2 e2 => hs H2 (e.trans e2) Q fun v H3 e3 r => q v H3 (e2.trans e3) r
theorem SpP.of {pre : List V → Hp → Rl → Prop} {vs : List V} (h : ∀ H1, Ex H H1 → pre vs H1 R) : SpP (spR pre) vs H R := fun H1 e Q q => ⟨R, h H1 e, q⟩
theorem s_asgP {D : Ends} {i : Nat} (h : EvP te σ H R) (k : ∀ v H1, Ex H H1 → R H1 v → D.nx (σ.set i (some v)) H1) : tAsg te (gName i) D σ H := h H (Ex.refl H) _ k
theorem s_retP {D : Ends} (h : EvP te σ H R) (k : ∀ v H1, Ex H H1 → R H1 v → D.rt v H1) : tRet te D σ H := h H (Ex.refl H) _ k
end
end PLW
end
section
set_option Elab.async false
set_option linter.all false
set_option maxRecDepth 100000
set_option maxHeartbeats 2000000
namespace PLW
open PySem PySem.Spec PyProof.Rows L2 Evl
open PL PySem.W
/-! more of the words: calls by values -/
section
variable {K : PySem.W.Frag} {σ : L2.St} {H H' : Hp} {ta tb te : TE} {v x y z : V} {R : Rl} {D : Ends}
theorem ev_cb {r : List V → Hp → VK → Prop} {t : TA} {vs : List V} (h : EvA t σ H vs) (hr : ∀ H1, Ex H H1 → ∀ Q : VK, Q z H1 → r vs H1 Q) : Ev (tCB r t) σ H z := fun H1 e Q q =>
  h H1 e _ fun H2 e2 => hr H2 (e.trans e2) Q (q H2 e2)
theorem evp_cb {r : List V → Hp → VK → Prop} {t : TA} {vs : List V} (h : EvA t σ H vs) (hr : ∀ H1, Ex H H1 → ∀ Q : VK, (∀ v H2, Ex H1 H2 → R H2 v → Q v H2) → r vs H1 Q) : EvP (tCB r t) σ H R := fun H1 e Q q =>
  h H1 e _ fun H2 e2 => hr H2 (e.trans e2) Q fun v H3 e3 rv => q v H3 (e2.trans e3) rv
theorem ev_isi {t : TA} {c : V} {a b : Value} {r : Bool} (h : EvA t σ H [x, c]) (hc : ClsV c b) (ht : ∀ H1, Ex H H1 → TyX K H1 x a) (hk : PySem.W.kitOne K a b = some r) : Ev (tCB (rIsi K) t) σ H (.bl r) :=
  ev_cb h fun H1 e Q q => ⟨x, c, a, b, r, rfl, hc, ht H1 e, hk, q⟩
theorem ev_bin {f : Int → Int → Int} {i j : Int} (ha : Ev ta σ H (.int i)) (hb : Ev tb σ H (.int j)) : Ev (tOp (rI0 fun i j => .int (f i j)) ta tb) σ H (.int (f i j)) := ev_op ha hb rv_I0
theorem ev_cmp {f : Int → Int → Bool} {i j : Int} (ha : Ev ta σ H (.int i)) (hb : Ev tb σ H (.int j)) : Ev (tOp (rI0 fun i j => .bl (f i j)) ta tb) σ H (.bl (f i j)) := ev_op ha hb rv_I0
theorem ev_chain {f g : Int → Int → Bool} {i j k : Int} {tc : TE} (ha : Ev ta σ H (.int i)) (hb : Ev tb σ H (.int j)) (hc : Ev tc σ H (.int k)) : Ev (tChain (rI0 fun i j => .bl (f i j)) (rI0 fun i j => .bl (g i j)) ta tb tc) σ H (.bl (f i j && g j k)) := fun H1 e Q q =>
  ha H1 e _ fun H2 e2 => hb H2 (e.trans e2) _ fun H3 e3 => ⟨i, j, rfl, rfl, _, rfl, by
    cases hf : f i j with
    | true =>
      show tc σ H3 _
      exact hc H3 ((e.trans e2).trans e3) _ fun H4 e4 => ⟨j, k, rfl, rfl, by
        have := q H4 ((e2.trans e3).trans e4)
        rw [hf] at this
        exact this⟩
    | false =>
      show Q (.bl false) H3
      have := q H3 (e2.trans e3)
      rw [hf] at this
      exact this⟩
end
/-! math.comb -/
theorem fp_top (n k : Nat) : Builtin.Math.fallingProduct ((n + 1 : Nat) : Int) (k + 1) = ((n + 1 : Nat) : Int) * Builtin.Math.fallingProduct (n : Int) k := by
  induction k with
  | zero => rw [mc_fp_one, mc_fp_zero, Int.mul_one]
  | succ k ih =>
    rw [mc_fp_succ, ih, mc_fp_succ (n : Int) k, Int.mul_assoc]
    congr 1
    congr 1
    omega
theorem ch_fp : ∀ (k n : Nat), ((ch n k : Nat) : Int) * Builtin.Math.fallingProduct (k : Int) k = Builtin.Math.fallingProduct (n : Int) k
  | 0, n => by rw [ch_zero]; rfl
  | k + 1, n => by
    have ih := ch_fp k n
    rw [fp_top k k, mc_fp_succ, ← ih, ← Int.mul_assoc, show ((ch n (k + 1) : Nat) : Int) * ((k + 1 : Nat) : Int) = ((ch n (k + 1) * (k + 1) : Nat) : Int) by simp, ch_mul]
    by_cases h : k ≤ n
    · rw [show ((ch n k * (n - k) : Nat) : Int) = ((ch n k : Nat) : Int) * ((n : Int) - (k : Int)) by rw [Int.natCast_mul, Int.ofNat_sub h]]
      rw [Int.mul_assoc, Int.mul_assoc, Int.mul_comm ((n : Int) - (k : Int))]
    · rw [ch_big (show n < k by omega)]
      simp
theorem mcComb_ch (a b : Nat) : mcComb (a : Int) (b : Int) = ((ch a b : Nat) : Int) := by
  by_cases h : b ≤ a
  · have key : ∀ k : Nat, k ≤ a → Builtin.Math.fallingProduct (a : Int) k / Builtin.Math.fallingProduct (k : Int) k = ((ch a k : Nat) : Int) := fun k hk => by
      rw [← ch_fp k a]
      exact Int.mul_ediv_cancel _ (by have := mc_fp_pos (n := (k : Int)) k (Int.le_refl _); omega)
    rw [mcComb_at (by omega) (by omega) rfl]
    by_cases e : b ≤ a - b
    · rw [show min (b : Int) ((a : Int) - (b : Int)) = (b : Int) by omega, Int.toNat_natCast]
      exact key b h
    · rw [show min (b : Int) ((a : Int) - (b : Int)) = ((a - b : Nat) : Int) by omega, Int.toNat_natCast, key (a - b) (by omega)]
      have := ch_sym (a - b) b
      rw [show a - b + b = a by omega] at this
      rw [this]
  · rw [mcComb_above (by omega), ch_big (by omega)]
    rfl
def rComb : List V → Hp → VK → Prop := fun xs H Q => ∃ a b : Nat, xs = [.int (a : Int), .int (b : Int)] ∧ a < 2 ^ 64 ∧ b ≤ 9000 ∧ Q (.int ((ch a b : Nat) : Int)) H
section
variable {X : Cx}
theorem call_comb : CallR X (.builtin "math.comb") rComb := by
  intro pins s σ H xs us Q I r h
  obtain ⟨a, b, rfl, ha, hb, q⟩ := h
  obtain ⟨u1, u2, rfl, r1, r2⟩ := vals2 r
  obtain ⟨t1, rfl⟩ := (show ∃ t, u1 = Value.int (a : Int) t from r1)
  obtain ⟨t2, rfl⟩ := (show ∃ t, u2 = Value.int (b : Int) t from r2)
  exact mc_comb_v (by omega) (by omega) (by omega) (.inl (by omega)) (mcComb_ch a b) ⟨.int _, H, I.tok _, ⟨_, rfl⟩, q⟩
theorem pe_comb {x : Str} {t : TA} {e : Expr} {es : List Expr} {p pos : Pos} (hg : Gl X x) (hm : X.mg x = some (.builtin "math.comb")) (ha : PA X (e :: es) t) (hdb : (x == ("__debug__" : Str)) = false := by decide)
    (he : starEach (e :: es) X.env = (false, eval e X.env) :: starEach es X.env := by rfl) (hpl : (backTo pos (starEach es X.env)).any (·.1) = false := by rfl) : PE X (.Call (.Name x p) (e :: es) [] pos) (tCB rComb t) := by
  refine ⟨fun pins s σ H Q I h => ?_⟩
  refine wpAny_Call_Name_kw (ld_glob I hg hm ?_ hdb)
  exact PyProof.Rows.callWith_builtin1 (thn (ha.run pos pins s σ H _ I h) fun us s1 ⟨vs, H1, I1, r1, q1⟩ => call_comb pins s1 σ H1 vs us Q I1 r1 q1) he hpl
end
end PLW
end
section
set_option Elab.async false
set_option linter.all false
set_option maxRecDepth 100000
set_option maxHeartbeats 2000000
namespace PLW
open PySem PySem.Spec PyProof.Rows L2 Evl
open PL PySem.W
section
variable {P : Program} {w : World} {K : PySem.W.Frag} {mg : Str → Option Value} {base : Heap}
theorem ty_int {H : Hp} {i : Int} : TyX K H (.int i) (.type "int") := .base (.int i)
def sp_is_whole : Sp := spR fun vs _ R => ∃ i : Int, vs = [.int i] ∧ R = rBl true
abbrev N_is_whole : List Str := ["value"]
theorem sc_is_whole : FnScope N_is_whole ["value"] (defScope s_is_whole) := ⟨rfl, rfl, rfl, by decide +kernel, rfl, by decide +kernel, by decide +kernel⟩
theorem has_is_whole (T : Tx K mg) : Has P w K mg base "is_whole" ["value"] 1 sp_is_whole := by
  obtain ⟨fd, F⟩ := T.fn_is_whole
  refine ⟨⟨fd, F.ok sc_is_whole (fun vs H Q E h => ?_) (fun cdv A outer s H vs Q E hr h => ?_), F.bindsN fun _ _ _ _ _ _ us hl => match us, hl with | [_], _ => rfl⟩, F.kp, T.g_is_whole⟩
  · obtain ⟨R, ⟨i, rfl, _⟩, _⟩ := h; rfl
  · obtain ⟨R, ⟨i, rfl, rfl⟩, k⟩ := h
    refine ⟨_, PSs.nox (pss_one (ps_ret (pe_and (pe_callB call_isi (by rfl) T.isinstance_ (by decide +kernel) (pa_cons (pv 0) (pa_cons (pe_bltn (v := .ty "int") (by rfl) T.int_ (by decide +kernel) rfl) pa_nil))) (pe_one (pe_not (pe_callB call_isi (by rfl) T.isinstance_ (by decide +kernel) (pa_cons (pv 0) (pa_cons (pe_bltn (v := .ty "bool") (by rfl) T.bool_ (by decide +kernel) rfl) pa_nil)))))))), ?_⟩
    refine s_ret (v := .bl true) ?_ (fun H1 e => k _ H1 e rfl)
    exact ev_andV (a := true) (b := true) (ev_isi (ea_cons (ev_var rfl) (ea_cons ev_c ea_nil)) (.ty "int") (fun H1 _ => ty_int) (kit_ty (by decide +kernel)))
      (fun _ => ev_notV (a := false) (ev_isi (ea_cons (ev_var rfl) (ea_cons ev_c ea_nil)) (.ty "bool") (fun H1 _ => ty_int) (kit_ty (by decide +kernel))))
def sp_is_within : Sp := spR fun vs _ R => ∃ i a b : Int, vs = [.int i, .int a, .int b] ∧ R = rBl (decide (a ≤ i) && decide (i ≤ b))
abbrev N_is_within : List Str := ["value", "least", "greatest"]
theorem sc_is_within : FnScope N_is_within ["value", "least", "greatest"] (defScope s_is_within) := ⟨rfl, rfl, rfl, by decide +kernel, rfl, by decide +kernel, by decide +kernel⟩
theorem has_is_within (T : Tx K mg) : Has P w K mg base "is_within" ["value", "least", "greatest"] 2 sp_is_within := by
  have h_is_whole : Has P w K mg base _ _ 1 sp_is_whole := has_is_whole T
  obtain ⟨fd, F⟩ := T.fn_is_within
  refine ⟨⟨fd, F.ok sc_is_within (fun vs H Q E h => ?_) (fun cdv A outer s H vs Q E hr h => ?_), F.bindsN fun _ _ _ _ _ _ us hl => match us, hl with | [_, _, _], _ => rfl⟩, F.kp, T.g_is_within⟩
  · obtain ⟨R, ⟨i, a, b, rfl, _⟩, _⟩ := h; rfl
  · obtain ⟨R, ⟨i, a, b, rfl, rfl⟩, k⟩ := h
    refine ⟨_, PSs.nox (pss_one (ps_ret (pe_and (pe_h h_is_whole (hr.mono (by decide)) pass0 (pa_cons (pv 0) pa_nil)) (pe_one (pe_chain op_le op_le (pv 1) (pv 0) (pv 2)))))), ?_⟩
    refine s_ret (v := .bl (true && (decide (a ≤ i) && decide (i ≤ b)))) ?_ (fun H1 e => k _ H1 e rfl)
    exact ev_andV (evp_call (ea_cons (ev_var rfl) ea_nil) (SpP.of fun H1 _ => ⟨i, rfl, rfl⟩)).ev (fun _ => ev_chain (ev_var rfl) (ev_var rfl) (ev_var rfl))
end
end PLW
end
section
set_option Elab.async false
set_option linter.all false
set_option maxRecDepth 100000
set_option maxHeartbeats 2000000
namespace PLW
open PySem PySem.Spec PyProof.Rows L2 Evl
open PL PySem.W
section
variable {K : PySem.W.Frag} {σ : L2.St} {H H' : Hp} {ta tb te : TE} {v x y z : V} {R : Rl} {D : Ends} {tz : TS}
theorem s_par {i j : Nat} {t : TA} {a b : V} (h : EvA t σ H [a, b]) (k : ∀ H1, Ex H H1 → D.nx ((σ.set i (some a)).set j (some b)) H1) : tPar i j t D σ H := h H (Ex.refl H) _ fun H1 e => ⟨a, b, rfl, k H1 e⟩
theorem q_par {i j : Nat} {t : TA} {a b : V} (h : EvA t σ H [a, b]) (k : ∀ H1, Ex H H1 → tz D ((σ.set i (some a)).set j (some b)) H1) : tSeq (tPar i j t) tz D σ H := s_par (D := { D with nx := tz D }) h k
theorem ev_mul {i j : Int} (ha : Ev ta σ H (.int i)) (hb : Ev tb σ H (.int j)) (hc : CMul i j) : Ev (tOp (rI CMul fun i j => .int (i * j)) ta tb) σ H (.int (i * j)) := ev_op ha hb (rv_I hc)
theorem ev_fdiv {i j : Int} (ha : Ev ta σ H (.int i)) (hb : Ev tb σ H (.int j)) (hc : CDiv i j) : Ev (tOp (rI CDiv fun i j => .int (i / j)) ta tb) σ H (.int (i / j)) := ev_op ha hb (rv_I hc)
theorem ev_eqI {i j : Int} (ha : Ev ta σ H (.int i)) (hb : Ev tb σ H (.int j)) : Ev (tOp rEq ta tb) σ H (.bl (decide (i = j))) := ev_is (ev_op ha hb (rv_eq rfl)) (by
  by_cases h : i = j
  · subst h; simp
  · rw [decide_eq_false h, decide_eq_false (fun z => h (V.int.inj z))])
theorem pd_app {ι : Type} {R : ι → Rl} {H1 : Hp} {l : Addr} {xs : List V} {is : List ι} {i : ι} (hl : H l = some (.lst xs)) (e : Ex H H1) (pd : Pd R H xs is) (hs : ∀ i, Stb (R i)) (hv : R i H1 v) :
    Pd R (upd H1 l (.lst (xs ++ [v]))) (xs ++ [v]) (is ++ [i]) := ((pd.keep hs (Kp.ex e)).snoc hv).keep hs (Kp.lst (e l _ hl))
theorem s_forR3 {j : Nat} {t : TA} {lo hi : Int} {tu : TS} (h : EvA t σ H [.int lo, .int hi, .int (-1)]) (hb : -(2 ^ 62) ≤ lo ∧ lo < 2 ^ 62 ∧ -(2 ^ 62) ≤ hi ∧ hi < 2 ^ 62) (Pv : Nat → L2.St → Hp → Prop) (h0 : ∀ H1, Ex H H1 → Pv 0 σ H1)
    (hs : ∀ (i : Nat) σ' H', (i : Int) < lo - hi → Pv i σ' H' → tu { D with nx := Pv (i + 1), ct := Pv (i + 1), bk := D.nx } (σ'.set j (some (.int (lo - (i : Int))))) H') (hd : ∀ σ' H', Pv (lo - hi).toNat σ' H' → D.nx σ' H') : tFor (iRng3 t) (gName j) tu D σ H :=
  h H (Ex.refl H) _ fun H1 e => ⟨lo, hi, -1, (lo - hi).toNat, rfl, RgC.neg hb.1 hb.2.1 hb.2.2.1 hb.2.2.2, for_rangeC (lo := lo) (c := -1) (n := (lo - hi).toNat) Pv (h0 H1 e) (fun i σ' H' hi p => by
    show tu { D with nx := Pv (i + 1), ct := Pv (i + 1), bk := D.nx } (σ'.set j (some (.int (lo + (i : Int) * -1)))) H'
    rw [show lo + (i : Int) * -1 = lo - (i : Int) by omega]
    exact hs i σ' H' (by omega) p) hd⟩
end
section
variable {P : Program} {w : World} {K : PySem.W.Frag} {mg : Str → Option Value} {base : Heap}
def sp_require_within : Sp := spR fun vs _ R => ∃ i a b : Int, vs = [.int i, .int a, .int b] ∧ a ≤ i ∧ i ≤ b ∧ R = fun _ v => v = .non
abbrev N_require_within : List Str := ["value", "least", "greatest"]
theorem sc_require_within : FnScope N_require_within ["value", "least", "greatest"] (defScope s_require_within) := ⟨rfl, rfl, rfl, by decide +kernel, rfl, by decide +kernel, by decide +kernel⟩
theorem has_require_within (T : Tx K mg) : Has P w K mg base "require_within" ["value", "least", "greatest"] 3 sp_require_within := by
  have h_is_within : Has P w K mg base _ _ 2 sp_is_within := has_is_within T
  obtain ⟨fd, F⟩ := T.fn_require_within
  refine ⟨⟨fd, F.ok sc_require_within (fun vs H Q E h => ?_) (fun cdv A outer s H vs Q E hr h => ?_), F.bindsN fun _ _ _ _ _ _ us hl => match us, hl with | [_, _, _], _ => rfl⟩, F.kp, T.g_require_within⟩
  · obtain ⟨R, ⟨i, a, b, rfl, _⟩, _⟩ := h; rfl
  · obtain ⟨R, ⟨i, a, b, rfl, h1, h2, rfl⟩, k⟩ := h
    refine ⟨_, PSs.nox (pss_one (ps_if (pt_not (pt_val (pe_h h_is_within (hr.mono (by decide)) pass0 (pa_cons (pv 0) (pa_cons (pv 1) (pa_cons (pv 2) pa_nil)))))) (pss_one ps_never) pss_nil)), ?_⟩
    refine s_when (b := !(decide (a ≤ i) && decide (i ≤ b))) (et_not (et_B (evp_call (ea_cons (ev_var rfl) (ea_cons (ev_var rfl) (ea_cons (ev_var rfl) ea_nil))) (SpP.of fun H1 _ => ⟨i, a, b, rfl, rfl⟩)).ev)) (fun z => ?_) (fun _ H1 e => k _ H1 e rfl)
    rw [decide_eq_true h1, decide_eq_true h2] at z
    cases z
def sp_require_letters : Sp := spR fun vs _ R => ∃ i : Int, vs = [.int i] ∧ 1 ≤ i ∧ i ≤ 8 ∧ R = fun _ v => v = .non
abbrev N_require_letters : List Str := ["letters"]
theorem sc_require_letters : FnScope N_require_letters ["letters"] (defScope s_require_letters) := ⟨rfl, rfl, rfl, by decide +kernel, rfl, by decide +kernel, by decide +kernel⟩
theorem has_require_letters (T : Tx K mg) : Has P w K mg base "require_letters" ["letters"] 4 sp_require_letters := by
  have h_require_within : Has P w K mg base _ _ 3 sp_require_within := has_require_within T
  obtain ⟨_, m_MAX_LETTERS⟩ := T.i_MAX_LETTERS
  obtain ⟨fd, F⟩ := T.fn_require_letters
  refine ⟨⟨fd, F.ok sc_require_letters (fun vs H Q E h => ?_) (fun cdv A outer s H vs Q E hr h => ?_), F.bindsN fun _ _ _ _ _ _ us hl => match us, hl with | [_], _ => rfl⟩, F.kp, T.g_require_letters⟩
  · obtain ⟨R, ⟨i, rfl, _⟩, _⟩ := h; rfl
  · obtain ⟨R, ⟨i, rfl, h1, h2, rfl⟩, k⟩ := h
    refine ⟨_, PSs.nox (pss_one (ps_expr (pe_h h_require_within (hr.mono (by decide)) pass0 (pa_cons (pv 0) (pa_cons pe_int (pa_cons (pe_glob (v := .int 8) rfl m_MAX_LETTERS ⟨_, rfl⟩) pa_nil)))))), ?_⟩
    exact s_drop (v := .non) (evp_call (ea_cons (ev_var rfl) (ea_cons ev_c (ea_cons ev_c ea_nil))) (SpP.of fun H1 _ => ⟨i, 1, 8, rfl, h1, h2, rfl⟩)).ev (fun H1 e => k _ H1 e rfl)
def sp_choices_of : Sp := spR fun vs _ R => ∃ a b : Nat, vs = [.int (a : Int), .int (b : Int)] ∧ a < 2 ^ 64 ∧ b ≤ 9000 ∧ R = rInt ((ch a b : Nat) : Int)
abbrev N_choices_of : List Str := ["top", "bottom"]
theorem sc_choices_of : FnScope N_choices_of ["top", "bottom"] (defScope s_choices_of) := ⟨rfl, rfl, rfl, by decide +kernel, rfl, by decide +kernel, by decide +kernel⟩
theorem has_choices_of (T : Tx K mg) : Has P w K mg base "choices_of" ["top", "bottom"] 1 sp_choices_of := by
  obtain ⟨fd, F⟩ := T.fn_choices_of
  refine ⟨⟨fd, F.ok sc_choices_of (fun vs H Q E h => ?_) (fun cdv A outer s H vs Q E hr h => ?_), F.bindsN fun _ _ _ _ _ _ us hl => match us, hl with | [_, _], _ => rfl⟩, F.kp, T.g_choices_of⟩
  · obtain ⟨R, ⟨a, b, rfl, _⟩, _⟩ := h; rfl
  · obtain ⟨R, ⟨a, b, rfl, h1, h2, rfl⟩, k⟩ := h
    refine ⟨_, PSs.nox (pss_one (ps_ret (pe_ifExp (pt_chain op_le op_le pe_int (pv 1) (pv 0)) (pe_comb (by rfl) T.comb (pa_cons (pv 0) (pa_cons (pv 1) pa_nil))) pe_int))), ?_⟩
    refine s_ret (v := .int ((ch a b : Nat) : Int)) ?_ (fun H1 e => k _ H1 e rfl)
    refine ev_if (et_test (ev_chain ev_c (ev_var rfl) (ev_var rfl))) (fun _ => ev_cb (ea_cons (ev_var rfl) (ea_cons (ev_var rfl) ea_nil)) fun H1 _ Q q => ⟨a, b, rfl, h1, h2, q⟩) (fun z => ?_)
    have hb : a < b := by
      rw [decide_eq_true (show (0 : Int) ≤ (b : Int) by omega), Bool.true_and] at z
      have := of_decide_eq_false z
      omega
    rw [ch_big hb]
    exact ev_c
def sp_products_in : Sp := spR fun vs _ R => ∃ n d : Nat, vs = [.int (n : Int), .int (d : Int)] ∧ 1 ≤ n ∧ n ≤ 8 ∧ d ≤ 9000 ∧ R = rInt ((nn n d : Nat) : Int)
abbrev N_products_in : List Str := ["letters", "degree"]
theorem sc_products_in : FnScope N_products_in ["letters", "degree"] (defScope s_products_in) := ⟨rfl, rfl, rfl, by decide +kernel, rfl, by decide +kernel, by decide +kernel⟩
theorem has_products_in (T : Tx K mg) : Has P w K mg base "products_in" ["letters", "degree"] 2 sp_products_in := by
  have h_choices_of : Has P w K mg base _ _ 1 sp_choices_of := has_choices_of T
  obtain ⟨fd, F⟩ := T.fn_products_in
  refine ⟨⟨fd, F.ok sc_products_in (fun vs H Q E h => ?_) (fun cdv A outer s H vs Q E hr h => ?_), F.bindsN fun _ _ _ _ _ _ us hl => match us, hl with | [_, _], _ => rfl⟩, F.kp, T.g_products_in⟩
  · obtain ⟨R, ⟨n, d, rfl, _⟩, _⟩ := h; rfl
  · obtain ⟨R, ⟨n, d, rfl, h0, h1, h2, rfl⟩, k⟩ := h
    refine ⟨_, PSs.nox (pss_one (ps_ret (pe_ifExp (pt_cmpR op_gt (pv 0) pe_int (nomark _)) (pe_h h_choices_of (hr.mono (by decide)) pass0 (pa_cons (pe_op op_sub (pe_op op_add (pv 1) (pv 0)) pe_int) (pa_cons (pv 1) pa_nil))) (pe_callTy call_int1 (by rfl) T.int_ (by decide +kernel) (pa_cons (pe_cmpR op_eq (pv 1) pe_int (nomark _)) pa_nil))))), ?_⟩
    refine s_ret (v := .int ((nn n d : Nat) : Int)) ?_ (fun H1 e => k _ H1 e rfl)
    refine ev_if (et_test (ev_cmp (ev_var rfl) ev_c)) (fun _ => (evp_call (ea_cons (ev_bin (ev_bin (ev_var rfl) (ev_var rfl)) ev_c) (ea_cons (ev_var rfl) ea_nil)) (SpP.of fun H1 _ => ⟨d + n - 1, d, by
      show [V.int ((d : Int) + (n : Int) - 1), V.int (d : Int)] = _
      rw [show (d : Int) + (n : Int) - 1 = ((d + n - 1 : Nat) : Int) by omega], by omega, by omega, by
      obtain ⟨m, rfl⟩ : ∃ m, n = m + 1 := ⟨n - 1, by omega⟩
      rw [show d + (m + 1) - 1 = d + m by omega, ← nn_ch']
      rfl⟩)).ev) (fun z => ?_)
    · have := of_decide_eq_false z
      omega
def sp_law_binomial : Sp := spR fun vs _ R => ∃ a b : Nat, vs = [.int (a : Int), .int (b : Int)] ∧ a < 2 ^ 60 ∧ b ≤ 9000 ∧ R = rInt ((ch a b : Nat) : Int)
abbrev N_law_binomial : List Str := ["_law_top", "_law_bottom", "_law_found", "_law_turn"]
theorem sc_law_binomial : FnScope N_law_binomial ["_law_top", "_law_bottom"] (defScope s_law_binomial) := ⟨rfl, rfl, rfl, by decide +kernel, rfl, by decide +kernel, by decide +kernel⟩
theorem has_law_binomial (T : Tx K mg) : Has P w K mg base "_law_binomial" ["_law_top", "_law_bottom"] 1 sp_law_binomial := by
  obtain ⟨fd, F⟩ := T.fn_law_binomial
  refine ⟨⟨fd, F.ok sc_law_binomial (fun vs H Q E h => ?_) (fun cdv A outer s H vs Q E hr h => ?_), F.bindsN fun _ _ _ _ _ _ us hl => match us, hl with | [_, _], _ => rfl⟩, F.kp, T.g_law_binomial⟩
  · obtain ⟨R, ⟨a, b, rfl, _⟩, _⟩ := h; rfl
  · obtain ⟨R, ⟨a, b, rfl, h1, h2, rfl⟩, k⟩ := h
    refine ⟨_, PSs.nox (pss_cons (ps_set (i := 2) sc_law_binomial.nd rfl (Or.inl rfl) pe_int) (pss_cons (ps_for PassesOwn.never rfl (pi_range1 (by rfl) T.range_ (pa_cons (pv 1) pa_nil)) (pg_name (i := 3) sc_law_binomial.nd rfl (Or.inl rfl)) (pss_one (ps_set (i := 2) sc_law_binomial.nd rfl (Or.inl rfl) (pe_op op_fdiv (pe_op op_mul (pv 2) (pe_op op_sub (pv 0) (pv 3))) (pe_op op_add (pv 3) pe_int))))) (pss_one (ps_ret (pe_ifExp (pt_chain op_le op_le pe_int (pv 1) (pv 0)) (pv 2) pe_int))))), ?_⟩
    refine q_asg ev_c (fun H1 e1 => ?_)
    refine q_forR1 (n := (b : Int)) (ea_cons (ev_var rfl) ea_nil) (by omega) (fun i σ H' => ∃ v, σ = [some (.int (a : Int)), some (.int (b : Int)), some (.int ((ch a i : Nat) : Int)), v] ∧ Ex H H') (fun H2 e2 => ⟨none, by rw [ch_zero]; rfl, e1.trans e2⟩) ?_ ?_
    · rintro i σ H' hi ⟨v, rfl, e⟩
      refine s_asg (v := .int (((ch a i : Nat) : Int) * ((a : Int) - (i : Int)) / ((i : Int) + 1))) (ev_fdiv (ev_mul (ev_var rfl) (ev_bin (ev_var rfl) (ev_var rfl)) (.inr ⟨by omega, by omega⟩)) (ev_bin (ev_var rfl) ev_c) ⟨by omega, by omega⟩) (fun H2 e2 => ⟨some (.int (i : Int)), ?_, e.trans e2⟩)
      have : ((ch a i : Nat) : Int) * ((a : Int) - (i : Int)) / ((i : Int) + 1) = ((ch a (i + 1) : Nat) : Int) := by
        have hm := ch_mul a i
        by_cases c : i ≤ a
        · have e1 : ((ch a i : Nat) : Int) * ((a : Int) - (i : Int)) = ((ch a (i + 1) : Nat) : Int) * ((i : Int) + 1) := by
            rw [show (a : Int) - (i : Int) = ((a - i : Nat) : Int) by omega, ← Int.natCast_mul, ← hm]
            simp
          rw [e1]
          exact Int.mul_ediv_cancel _ (by omega)
        · rw [ch_big (show a < i by omega), ch_big (show a < i + 1 by omega)]
          simp
      rw [this]
      rfl
    · rintro σ H' ⟨v, rfl, e⟩
      rw [Int.toNat_natCast]
      refine s_ret (v := .int ((ch a b : Nat) : Int)) (ev_if (et_test (ev_chain ev_c (ev_var rfl) (ev_var rfl))) (fun _ => ev_var rfl) (fun z => ?_)) (fun H1 e' => k _ H1 (e.trans e') rfl)
      have hb : a < b := by
        rw [decide_eq_true (show (0 : Int) ≤ (b : Int) by omega), Bool.true_and] at z
        have := of_decide_eq_false z
        omega
      rw [ch_big hb]
      exact ev_c
def sp_law_many : Sp := spR fun vs _ R => ∃ (n : Nat) (d : Int), vs = [.int (n : Int), .int d] ∧ 1 ≤ n ∧ n ≤ 8 ∧ d ≤ 9000 ∧ R = rInt (if 0 ≤ d then ((nn n d.toNat : Nat) : Int) else 0)
abbrev N_law_many : List Str := ["_law_letters", "_law_degree"]
theorem sc_law_many : FnScope N_law_many ["_law_letters", "_law_degree"] (defScope s_law_many) := ⟨rfl, rfl, rfl, by decide +kernel, rfl, by decide +kernel, by decide +kernel⟩
theorem has_law_many (T : Tx K mg) : Has P w K mg base "_law_many" ["_law_letters", "_law_degree"] 2 sp_law_many := by
  have h_law_binomial : Has P w K mg base _ _ 1 sp_law_binomial := has_law_binomial T
  obtain ⟨fd, F⟩ := T.fn_law_many
  refine ⟨⟨fd, F.ok sc_law_many (fun vs H Q E h => ?_) (fun cdv A outer s H vs Q E hr h => ?_), F.bindsN fun _ _ _ _ _ _ us hl => match us, hl with | [_, _], _ => rfl⟩, F.kp, T.g_law_many⟩
  · obtain ⟨R, ⟨n, d, rfl, _⟩, _⟩ := h; rfl
  · obtain ⟨R, ⟨n, d, rfl, h0, h1, h2, rfl⟩, k⟩ := h
    refine ⟨_, PSs.nox (pss_one (ps_ret (pe_ifExp (pt_cmpR op_ge (pv 1) pe_int (nomark _)) (pe_h h_law_binomial (hr.mono (by decide)) pass0 (pa_cons (pe_op op_sub (pe_op op_add (pv 1) (pv 0)) pe_int) (pa_cons (pe_op op_sub (pv 0) pe_int) pa_nil))) pe_int))), ?_⟩
    refine s_ret (v := .int (if 0 ≤ d then ((nn n d.toNat : Nat) : Int) else 0)) ?_ (fun H1 e => k _ H1 e rfl)
    refine ev_if (et_test (ev_cmp (ev_var rfl) ev_c)) (fun z => ?_) (fun z => ?_)
    · have hd : 0 ≤ d := of_decide_eq_true z
      rw [if_pos hd]
      obtain ⟨e, rfl⟩ : ∃ e : Nat, d = (e : Int) := ⟨d.toNat, by omega⟩
      refine (evp_call (ea_cons (ev_bin (ev_bin (ev_var rfl) (ev_var rfl)) ev_c) (ea_cons (ev_bin (ev_var rfl) ev_c) ea_nil)) (SpP.of fun H1 _ => ⟨e + n - 1, n - 1, by
        show [V.int ((e : Int) + (n : Int) - 1), V.int ((n : Int) - 1)] = _
        rw [show (e : Int) + (n : Int) - 1 = ((e + n - 1 : Nat) : Int) by omega, show (n : Int) - 1 = ((n - 1 : Nat) : Int) by omega], by omega, by omega, by
        obtain ⟨m, rfl⟩ : ∃ m, n = m + 1 := ⟨n - 1, by omega⟩
        rw [Int.toNat_natCast, show e + (m + 1) - 1 = e + m by omega, show m + 1 - 1 = m by omega, ← nn_ch]
        rfl⟩)).ev
    · rw [if_neg (of_decide_eq_false z)]
      exact ev_c
end
end PLW
end
section
set_option Elab.async false
set_option linter.all false
set_option maxRecDepth 100000
set_option maxHeartbeats 2000000
namespace PLW
open PySem PySem.Spec PyProof.Rows L2 Evl RZ
open PL PySem.W
/-! what a comprehension walks, as related values by place -/
structure Feeds {ι : Type} (J : It) (St : Hp → Prop) (R : ι → Rl) (is : List ι) : Prop where
  go : ∀ i H, St H → i < is.length → J.go i H
  yld : ∀ i H x H', St H → J.yld i H x H' → ∀ k, is[i]? = some k → Ex H H' ∧ R k H' x
  stop : ∀ H, St H → J.stop is.length H
def EvI {ι : Type} (wi : TI) (σ : L2.St) (H : Hp) (R : ι → Rl) (is : List ι) : Prop := ∀ H1, Ex H H1 → ∀ Rr : It → Hp → Prop,
  (∀ J H2 St, Ex H1 H2 → St H2 → (∀ H' H'', Ex H' H'' → St H' → St H'') → Feeds J St R is → Rr J H2) → wi σ H1 Rr
section
variable {K : PySem.W.Frag} {σ : L2.St} {H H' : Hp} {ta tb te tl : TE} {v x y z : V} {D : Ends} {tz : TS} {ι κ : Type} {R : ι → Rl} {S : κ → Rl} {is : List ι}
theorem feeds_list {a : Addr} {vs : List V} (hs : ∀ i, Stb (R i)) : Feeds (Itl K a) (fun H => SqL K H a vs ∧ Pd R H vs is) R is where
  go := fun i H ⟨h, p⟩ hi => ⟨vs, vs[i]'(by rw [p.1]; exact hi), h, List.getElem?_eq_getElem _⟩
  yld := fun i H x H' ⟨h, p⟩ ⟨e, y⟩ k hk => by
    subst e
    exact ⟨Ex.refl _, p.2 i x k (y vs h) hk⟩
  stop := fun H ⟨h, p⟩ => ⟨vs, h, by rw [p.1]; exact Nat.le_refl _⟩
theorem feeds_tup {a : Addr} {vs : List V} (hs : ∀ i, Stb (R i)) : Feeds (Itt K a) (fun H => SqT K H a vs ∧ Pd R H vs is) R is where
  go := fun i H ⟨h, p⟩ hi => ⟨vs, vs[i]'(by rw [p.1]; exact hi), h, List.getElem?_eq_getElem _⟩
  yld := fun i H x H' ⟨h, p⟩ ⟨e, y⟩ k hk => by
    subst e
    exact ⟨Ex.refl _, p.2 i x k (y vs h) hk⟩
  stop := fun H ⟨h, p⟩ => ⟨vs, h, by rw [p.1]; exact Nat.le_refl _⟩
theorem ei_list (hs : ∀ i, Stb (R i)) (h : EvP tl σ H (rL K R is)) : EvI (iList K tl) σ H R is := fun H1 e Rr q =>
  h H1 e _ fun v H2 e2 ⟨a, vs, ev, h1, h2⟩ => ⟨a, ev, ⟨vs, h1⟩, q _ H2 _ e2 ⟨h1, h2⟩ (fun H' H'' x ⟨a1, a2⟩ => ⟨ex_l x a1, a2.keep hs (Kp.ex x)⟩) (feeds_list hs)⟩
theorem ei_tup (hs : ∀ i, Stb (R i)) (h : EvP tl σ H (rTs K R is)) : EvI (iTup K tl) σ H R is := fun H1 e Rr q =>
  h H1 e _ fun v H2 e2 ⟨a, vs, ev, h1, h2⟩ => ⟨a, ev, ⟨vs, h1⟩, q _ H2 _ e2 ⟨h1, h2⟩ (fun H' H'' x ⟨a1, a2⟩ => ⟨ex_t x a1, a2.keep hs (Kp.ex x)⟩) (feeds_tup hs)⟩
/-- a name whose value is a list (a tuple) that stands -/
theorem evp_var {i : Nat} {R : Rl} (h : σ[i]? = some (some v)) (hm : ∀ H1, Ex H H1 → R H1 v) : EvP (tVar i) σ H R := fun H1 e _ q => ⟨v, h, q v H1 (Ex.refl H1) (hm H1 e)⟩
def rNat (k : Nat) : Rl := fun _ v => v = .int (k : Int)
theorem rNat_stb (k : Nat) : Stb (rNat k) := fun _ h => h
theorem ei_rng1 {t : TA} {n : Nat} (h : EvA t σ H [.int (n : Int)]) (hn : n ≤ 100000) : EvI (iRng1 t) σ H rNat (List.range n) := fun H1 e Rr q =>
  h H1 e _ fun H2 e2 => ⟨(n : Int), rfl, by omega, by omega, q _ H2 (fun _ => True) e2 trivial (fun _ _ _ _ => trivial) {
    go := fun i H _ hi => by
      rw [List.length_range] at hi
      show i < (n : Int).toNat
      omega
    yld := fun i H x H' _ ⟨e, y⟩ k hk => by
      subst e
      have h1 := List.getElem?_eq_some_iff.mp hk
      obtain ⟨h2, h3⟩ := h1
      rw [List.getElem_range] at h3
      refine ⟨Ex.refl _, ?_⟩
      show x = V.int (k : Int)
      rw [y, h3]
      congr 1
      omega
    stop := fun H _ => by
      show (n : Int).toNat ≤ (List.range n).length
      rw [List.length_range]
      omega }⟩
/-- pairs of the words' letters -/
def rPr (p : Int × Int) : Rl := fun H v => ∃ T, v = .ref T ∧ H T = some (.tup [.int p.1, .int p.2])
end
section
variable {K : PySem.W.Frag} {σ : L2.St} {H H' : Hp} {ta tb te tl : TE} {v x y z : V} {D : Ends} {tz : TS} {ι κ : Type} {R : ι → Rl} {S : κ → Rl} {is : List ι}
theorem ei_zipT {t : TA} {a b : Addr} {xs ys : List V} {f g : ι → V} (h : EvA t σ H [.ref a, .ref b]) (h1 : SqT K H a xs) (h2 : SqT K H b ys) (e1 : xs = is.map f) (e2 : ys = is.map g) :
    EvI (iZipA K t) σ H (fun k H v => ∃ T, v = .ref T ∧ H T = some (.tup [f k, g k])) is := fun H1 e Rr q =>
  h H1 e _ fun H2 e3 => ⟨a, b, xs, ys, rfl, .inr ⟨ex_t (e.trans e3) h1, ex_t (e.trans e3) h2, q _ H2 (fun H => SqT K H a xs ∧ SqT K H b ys) e3 ⟨ex_t (e.trans e3) h1, ex_t (e.trans e3) h2⟩ (fun _ _ x ⟨c1, c2⟩ => ⟨ex_t x c1, ex_t x c2⟩) {
    go := fun i H ⟨c1, c2⟩ hi => ⟨xs, ys, xs[i]'(by rw [e1, List.length_map]; exact hi), ys[i]'(by rw [e2, List.length_map]; exact hi), c1, c2, List.getElem?_eq_getElem _, List.getElem?_eq_getElem _⟩
    yld := fun i H x H' ⟨c1, c2⟩ ⟨T, u, w, ex, hT, eH, u1, u2⟩ k hk => by
      subst eH
      refine ⟨Ex.new hT, T, ex, ?_⟩
      have a1 := u1 xs c1
      have a2 := u2 ys c2
      rw [e1, List.getElem?_map, hk] at a1
      rw [e2, List.getElem?_map, hk] at a2
      rw [upd_same, ← Option.some.inj a1, ← Option.some.inj a2]
    stop := fun H ⟨c1, c2⟩ => ⟨xs, ys, c1, c2, .inl (by rw [e1, List.length_map]; exact Nat.le_refl _)⟩ }⟩⟩
/-- the comprehension: the turns that are kept give values that S holds of -/
theorem evp_lc {wi : TI} {g : TG} {t : TT} {vs : List Nat} {f : ι → Bool} {u : ι → κ} (hi : EvI wi σ H R is) (hs : ∀ k, Stb (S k)) (hz : is.length ≤ 40000) (gm : ∀ v σ H Q Q', (∀ σ' H', Q σ' H' → Q' σ' H') → g v σ H Q → g v σ H Q')
    (ht : ∀ i x H1, Ex H H1 → i ∈ is → R i H1 x → g x (wipe σ vs) H1 fun σ2 H2 => H2 = H1 ∧ wipe σ2 vs = wipe σ vs ∧ EvT t σ2 H1 (f i) ∧ (f i = true → EvP te σ2 H1 (S (u i)))) : EvP (tLc wi g t te vs) σ H (rL K S ((is.filter f).map u)) := fun H0 e0 Q q =>
  hi H0 e0 _ fun J H1 St e1 st stE fd Dl hD => by
    let W : Nat → Hp → Prop := fun i H' => i ≤ is.length ∧ Ex H1 H' ∧ ∃ xs, H' Dl = some (.lst xs) ∧ Pd S H' xs (((is.take i).filter f).map u)
    have fl : ∀ i, (((is.take i).filter f).map u).length ≤ i := fun i => by
      rw [List.length_map]
      exact Nat.le_trans (List.length_filter_le _ _) (List.length_take_le _ _)
    refine ⟨fun i m H' => m = is.length - i ∧ W i H', ⟨is.length, by simp, Nat.zero_le _, Ex.new hD, [], upd_same, Pd.nil⟩, ?_⟩
    rintro i m H' ⟨rfl, hle, e2, xs, hxs, pd⟩
    have stH := stE _ _ e2 st
    by_cases hlt : i < is.length
    · have hk : is[i]? = some is[i] := List.getElem?_eq_getElem hlt
      refine .inr ⟨fd.go i H' stH hlt, W (i + 1), fun H'' w => ⟨is.length - (i + 1), by omega, rfl, w⟩, fun x H'' hy => ?_⟩
      obtain ⟨e3, hR⟩ := fd.yld i H' x H'' stH hy _ hk
      refine gm _ _ _ _ _ ?_ (ht _ x H'' (((e0.trans e1).trans e2).trans e3) (List.getElem_mem hlt) hR)
      rintro σ2 H2 ⟨rfl, hw, hT, hE⟩
      refine ⟨hw, hT _ (Ex.refl _) _ fun H3 e4 => ?_⟩
      have tk : is.take (i + 1) = is.take i ++ [is[i]] := by rw [List.take_succ, hk]; rfl
      cases hf : f is[i] with
      | true =>
        show te σ2 H3 _
        refine hE hf H3 e4 _ fun y H4 e5 hS => ?_
        have e6 := (e3.trans e4).trans e5
        refine ⟨xs, e6 _ _ hxs, sz_lt (by have := fl i; rw [← pd.1] at this; omega), hlt, Ex.mut (e2.trans e6) hD, _, upd_same, ?_⟩
        rw [tk, List.filter_append, List.map_append, List.filter_cons, if_pos hf]
        exact pd_app hxs e6 pd hs hS
      | false =>
        show W (i + 1) H3
        have e6 := e3.trans e4
        refine ⟨hlt, e2.trans e6, xs, e6 _ _ hxs, ?_⟩
        rw [tk, List.filter_append, List.map_append, List.filter_cons, if_neg (by rw [hf]; decide)]
        rw [show (([] : List ι).filter f).map u = [] from rfl, List.append_nil]
        exact pd.keep hs (Kp.ex e6)
    · have hi : i = is.length := by omega
      subst hi
      refine .inl ⟨fd.stop H' stH, q (.ref Dl) H' (e1.trans e2) ⟨Dl, xs, rfl, sq_of hxs, ?_⟩⟩
      rw [List.take_length] at pd
      exact pd
theorem filter_yes {l : List ι} : l.filter (fun _ => true) = l := by induction l with
  | nil => rfl
  | cons a l ih => rw [List.filter_cons, if_pos rfl, ih]
/-- .. without a test -/
theorem evp_lc0 {wi : TI} {g : TG} {vs : List Nat} {u : ι → κ} (hi : EvI wi σ H R is) (hs : ∀ k, Stb (S k)) (hz : is.length ≤ 40000) (gm : ∀ v σ H Q Q', (∀ σ' H', Q σ' H' → Q' σ' H') → g v σ H Q → g v σ H Q')
    (ht : ∀ i x H1, Ex H H1 → i ∈ is → R i H1 x → g x (wipe σ vs) H1 fun σ2 H2 => H2 = H1 ∧ wipe σ2 vs = wipe σ vs ∧ EvP te σ2 H1 (S (u i))) : EvP (tLc wi g tYes te vs) σ H (rL K S (is.map u)) := by
  have h := evp_lc (K := K) (te := te) (t := tYes) (f := fun _ => true) (u := u) hi hs hz gm (fun i x H1 e hm hR => gm _ _ _ _ _ (fun σ2 H2 ⟨a, b, c⟩ => ⟨a, b, (fun H1 _ Q q => q H1 (Ex.refl H1)), fun _ => c⟩) (ht i x H1 e hm hR))
  rw [filter_yes] at h
  exact h
theorem gm_name {j : Nat} : ∀ v σ H Q Q', (∀ σ' H', Q σ' H' → Q' σ' H') → gName j v σ H Q → gName j v σ H Q' := fun _ _ _ _ _ h q => h _ _ q
theorem gm_tup2 {i j : Nat} {n : Nat} : ∀ v σ H Q Q', (∀ σ' H', Q σ' H' → Q' σ' H') → gTup K n (gCons (gName i) (gCons (gName j) gNil)) v σ H Q → gTup K n (gCons (gName i) (gCons (gName j) gNil)) v σ H Q' := fun _ _ _ _ _ h ⟨a, xs, e1, h1, h2, u, r, e2, u2, r2, e3, e4, q⟩ => ⟨a, xs, e1, h1, h2, u, r, e2, u2, r2, e3, e4, h _ _ q⟩
/-- a pair at a tuple target -/
theorem g_tup2 {i j : Nat} {T : Addr} {p q : V} {Q : L2.St → Hp → Prop} (h : SqT K H T [p, q]) (k : Q ((σ.set i (some p)).set j (some q)) H) : gTup K 2 (gCons (gName i) (gCons (gName j) gNil)) (.ref T) σ H Q :=
  ⟨T, [p, q], rfl, h, rfl, p, [q], rfl, q, [], rfl, rfl, k⟩
theorem q_parL {i j : Nat} {te1 te2 : TE} {xs : List V} {b : V} (h1 : EvL te1 σ H xs) (h2 : Ev te2 σ H b) (k : ∀ l H1, H l = none → Ex H H1 → H1 l = some (.lst xs) → tz D ((σ.set i (some (.ref l))).set j (some b)) H1) : tSeq (tPar i j (tCons te1 (tCons te2 tNil))) tz D σ H :=
  h1 H (Ex.refl H) _ fun l H1 hl e1 hl1 => h2 H1 e1 _ fun H2 e2 => ⟨_, _, rfl, k l H2 hl (e1.trans e2) (e2 _ _ hl1)⟩
/-- values that are known -/
theorem pd_val {f : ι → V} {H : Hp} {vs : List V} (p : Pd (fun k _ x => x = f k) H vs is) : vs = is.map f := by
  refine List.ext_getElem? fun j => ?_
  rw [List.getElem?_map]
  cases h : is[j]? with
  | none =>
    have := List.getElem?_eq_none_iff.mp h
    rw [List.getElem?_eq_none_iff.mpr (by rw [p.1]; exact this)]
    rfl
  | some k =>
    obtain ⟨v, h1, h2⟩ := p.at h
    rw [h1, h2]
    rfl
theorem val_stb {f : ι → V} (k : ι) : Stb ((fun k _ x => x = f k : ι → Rl) k) := fun _ h => h
/-- a list of known values, at its own place -/
theorem EvP.vals {f : ι → V} (h : EvP te σ H (rL K (fun k _ x => x = f k) is)) : EvP te σ H fun H v => ∃ a, v = .ref a ∧ SqL K H a (is.map f) := fun H1 e Q q =>
  h H1 e Q fun v H2 e2 ⟨a, vs, e3, h1, h2⟩ => q v H2 e2 ⟨a, e3, by rw [← pd_val h2]; exact h1⟩
/-- a built-in over a new list -/
theorem ev_cbL {r : List V → Hp → VK → Prop} {R : Rl} (h : EvP te σ H R) (hr : ∀ v H1, Ex H H1 → R H1 v → ∀ Q : VK, Q z H1 → r [v] H1 Q) : Ev (tCB r (tCons te tNil)) σ H z := fun H1 e Q q =>
  h H1 e _ fun v H2 e2 hR => hr v H2 (e.trans e2) hR Q (q H2 e2)
theorem evp_cbL {r : List V → Hp → VK → Prop} {R R' : Rl} (h : EvP te σ H R) (hr : ∀ v H1, Ex H H1 → R H1 v → ∀ Q : VK, (∀ u H2, Ex H1 H2 → R' H2 u → Q u H2) → r [v] H1 Q) : EvP (tCB r (tCons te tNil)) σ H R' := fun H1 e Q q =>
  h H1 e _ fun v H2 e2 hR => hr v H2 (e.trans e2) hR Q fun u H3 e3 h3 => q u H3 (e2.trans e3) h3
end
end PLW
end
section
set_option Elab.async false
set_option linter.all false
set_option maxRecDepth 100000
set_option maxHeartbeats 2000000
namespace PLW
open PySem PySem.Spec PyProof.Rows L2 Evl RZ
open PL PySem.W
section
variable {P : Program} {w : World} {K : PySem.W.Frag} {mg : Str → Option Value} {base : Heap}
def sp_climbed : Sp := spR fun vs _ R => ∃ h b : Nat, vs = [.int (h : Int), .int (b : Int)] ∧ 1 ≤ h ∧ h ≤ 1000000 ∧ 1 ≤ b ∧ b ≤ 9000 ∧ R = rInt ((gt h b : Nat) : Int)
abbrev N_climbed : List Str := ["number", "bottom", "top", "found"]
theorem sc_climbed : FnScope N_climbed ["number", "bottom"] (defScope s_climbed) := ⟨rfl, rfl, rfl, by decide +kernel, rfl, by decide +kernel, by decide +kernel⟩
theorem has_climbed (T : Tx K mg) : Has P w K mg base "climbed" ["number", "bottom"] 1 sp_climbed := by
  obtain ⟨fd, F⟩ := T.fn_climbed
  refine ⟨⟨fd, F.ok sc_climbed (fun vs H Q E h => ?_) (fun cdv A outer s H vs Q E hr h => ?_), F.bindsN fun _ _ _ _ _ _ us hl => match us, hl with | [_, _], _ => rfl⟩, F.kp, T.g_climbed⟩
  · obtain ⟨R, ⟨a, b, rfl, _⟩, _⟩ := h; rfl
  · obtain ⟨R, ⟨h, b, rfl, h1, h2, b1, b2, rfl⟩, k⟩ := h
    refine ⟨_, PSs.nox (pss_cons (ps_par (i := 2) (j := 3) (by rfl) sc_climbed.nd rfl rfl (by decide) rfl rfl (pa_cons (pv 1) (pa_cons (pe_op op_add (pv 1) pe_int) pa_nil)) (by rfl)) (pss_cons (ps_while PassesOwn.never (pt_cmpR op_le (pv 3) (pv 0) (nomark _)) (pss_cons (ps_aug (i := 2) sc_climbed.nd rfl (Or.inl rfl) pe_int ip_add) (pss_one (ps_set (i := 3) sc_climbed.nd rfl (Or.inl rfl) (pe_op op_fdiv (pe_op op_mul (pv 3) (pe_op op_add (pv 2) pe_int)) (pe_op op_sub (pe_op op_add (pv 2) pe_int) (pv 1))))))) (pss_one (ps_ret (pv 2))))), ?_⟩
    refine q_par (ea_cons (ev_var rfl) (ea_cons (ev_bin (ev_var rfl) ev_c) ea_nil)) (fun H1 e1 => ?_)
    refine q_while (fun m σ H' => ∃ t : Nat, σ = [some (.int (h : Int)), some (.int (b : Int)), some (.int (t : Int)), some (.int ((ch (t + 1) b : Nat) : Int))] ∧ Ex H H' ∧ ch t b ≤ h ∧ b ≤ t ∧ m + t = h + b) h ⟨b, ?_, e1, by rw [ch_self]; exact h1, Nat.le_refl _, rfl⟩ ?_
    · have e : ch (b + 1) b = b + 1 := by
        have := ch_sym 1 b
        rw [ch_one, show 1 + b = b + 1 by omega] at this
        exact this.symm
      rw [e]
      rfl
    · rintro m σ H' ⟨t, rfl, e, ht, bt, hm⟩
      refine ⟨decide (((ch (t + 1) b : Nat) : Int) ≤ (h : Int)), et_test (ev_cmp (ev_var rfl) (ev_var rfl)), fun z H2 e2 => ?_, fun z H2 e2 => ?_⟩
      · have hz : ch (t + 1) b ≤ h := by have := of_decide_eq_true z; omega
        have hb := ch_le_top b1 (show b ≤ t + 1 by omega)
        refine ⟨fun σ' H' => σ' = [some (.int (h : Int)), some (.int (b : Int)), some (.int ((t + 1 : Nat) : Int)), some (.int ((ch (t + 2) b : Nat) : Int))] ∧ Ex H H', fun σ' H'' ⟨e3, e4⟩ => ⟨m - 1, by omega, t + 1, e3, e4, hz, by omega, by omega⟩, ?_⟩
        refine q_aug rfl ev_c (fun H3 e3 => ?_)
        refine s_asg (v := .int (((ch (t + 1) b : Nat) : Int) * ((t : Int) + 1 + 1) / ((t : Int) + 1 + 1 - (b : Int)))) (ev_fdiv (ev_mul (ev_var rfl) (ev_bin (ev_var rfl) ev_c) (.inr ⟨by omega, by omega⟩)) (ev_bin (ev_bin (ev_var rfl) ev_c) (ev_var rfl)) ⟨by omega, by omega⟩) (fun H4 e4 => ⟨?_, ((e.trans e2).trans e3).trans e4⟩)
        have : ((ch (t + 1) b : Nat) : Int) * ((t : Int) + 1 + 1) / ((t : Int) + 1 + 1 - (b : Int)) = ((ch (t + 2) b : Nat) : Int) := by
          have hu := ch_up (t + 1) b
          have e1 : ((ch (t + 1) b : Nat) : Int) * ((t : Int) + 1 + 1) = ((ch (t + 2) b : Nat) : Int) * ((t : Int) + 1 + 1 - (b : Int)) := by
            rw [show (t : Int) + 1 + 1 - (b : Int) = ((t + 1 + 1 - b : Nat) : Int) by omega, show (t : Int) + 1 + 1 = ((t + 1 + 1 : Nat) : Int) by omega, ← Int.natCast_mul, ← Int.natCast_mul, hu]
          rw [e1]
          exact Int.mul_ediv_cancel _ (by omega)
        rw [this]
        rfl
      · have hz : h < ch (t + 1) b := by have := of_decide_eq_false z; omega
        refine s_ret (v := .int (t : Int)) (ev_var rfl) (fun H3 e3 => k _ H3 ((e.trans e2).trans e3) ?_)
        rw [gt_uniq b1 ht hz]
        rfl
def sp_greatest_top : Sp := spR fun vs _ R => ∃ h b : Nat, vs = [.int (h : Int), .int (b : Int)] ∧ 1 ≤ h ∧ h ≤ 1000000 ∧ 1 ≤ b ∧ b ≤ 9000 ∧ R = rInt ((gt h b : Nat) : Int)
abbrev N_greatest_top : List Str := ["number", "bottom", "low", "high", "middle"]
theorem sc_greatest_top : FnScope N_greatest_top ["number", "bottom"] (defScope s_greatest_top) := ⟨rfl, rfl, rfl, by decide +kernel, rfl, by decide +kernel, by decide +kernel⟩
theorem has_greatest_top (T : Tx K mg) : Has P w K mg base "greatest_top" ["number", "bottom"] 2 sp_greatest_top := by
  have h_choices_of : Has P w K mg base _ _ 1 sp_choices_of := has_choices_of T
  have h_climbed : Has P w K mg base _ _ 1 sp_climbed := has_climbed T
  obtain ⟨_, m_MOST_LETTERS⟩ := T.i_MOST_LETTERS
  obtain ⟨fd, F⟩ := T.fn_greatest_top
  refine ⟨⟨fd, F.ok sc_greatest_top (fun vs H Q E h => ?_) (fun cdv A outer s H vs Q E hr h => ?_), F.bindsN fun _ _ _ _ _ _ us hl => match us, hl with | [_, _], _ => rfl⟩, F.kp, T.g_greatest_top⟩
  · obtain ⟨R, ⟨a, b, rfl, _⟩, _⟩ := h; rfl
  · obtain ⟨R, ⟨h, b, rfl, h1, h2, b1, b2, rfl⟩, k⟩ := h
    refine ⟨_, PSs.nox (pss_cons (ps_if (pt_cmpR op_eq (pv 1) pe_int (nomark _)) (pss_one (ps_ret (pv 0))) pss_nil) (pss_cons (ps_if (pt_cmpR op_gt (pv 1) (pe_glob (v := .int 8) rfl m_MOST_LETTERS ⟨_, rfl⟩) (nomark _)) (pss_one (ps_ret (pe_h h_climbed (hr.mono (by decide)) pass0 (pa_cons (pv 0) (pa_cons (pv 1) pa_nil))))) pss_nil) (pss_cons (ps_par (i := 2) (j := 3) (by rfl) sc_greatest_top.nd rfl rfl (by decide) rfl rfl (pa_cons (pv 1) (pa_cons (pe_op op_mul pe_int (pv 1)) pa_nil)) (by rfl)) (pss_cons (ps_while PassesOwn.never (pt_cmpR op_le (pe_h h_choices_of (hr.mono (by decide)) pass0 (pa_cons (pv 3) (pa_cons (pv 1) pa_nil))) (pv 0) (nomark _)) (pss_one (ps_par (i := 2) (j := 3) (by rfl) sc_greatest_top.nd rfl rfl (by decide) rfl rfl (pa_cons (pv 3) (pa_cons (pe_op op_mul pe_int (pv 3)) pa_nil)) (by rfl)))) (pss_cons (ps_while PassesOwn.never (pt_cmpR op_gt (pe_op op_sub (pv 3) (pv 2)) pe_int (nomark _)) (pss_cons (ps_set (i := 4) sc_greatest_top.nd rfl (Or.inl rfl) (pe_op op_fdiv (pe_op op_add (pv 2) (pv 3)) pe_int)) (pss_one (ps_if (pt_cmpR op_le (pe_h h_choices_of (hr.mono (by decide)) pass0 (pa_cons (pv 4) (pa_cons (pv 1) pa_nil))) (pv 0) (nomark _)) (pss_one (ps_set (i := 2) sc_greatest_top.nd rfl (Or.inl rfl) (pv 4))) (pss_one (ps_set (i := 3) sc_greatest_top.nd rfl (Or.inl rfl) (pv 4))))))) (pss_one (ps_ret (pv 2)))))))), ?_⟩
    refine q_when (et_test (ev_eqI (ev_var rfl) ev_c)) (fun z H1 e1 => ?_) (fun z H1 e1 => ?_)
    · have hb : b = 1 := by have := of_decide_eq_true z; omega
      subst hb
      refine s_ret (v := .int (h : Int)) (ev_var rfl) (fun H2 e2 => k _ H2 (e1.trans e2) ?_)
      rw [gt_one]
      rfl
    refine q_when (et_test (ev_cmp (ev_var rfl) ev_c)) (fun z H2 e2 => ?_) (fun z H2 e2 => ?_)
    · exact s_ret (v := .int ((gt h b : Nat) : Int)) (evp_call (ea_cons (ev_var rfl) (ea_cons (ev_var rfl) ea_nil)) (SpP.of fun H1 _ => ⟨h, b, rfl, h1, h2, b1, b2, rfl⟩)).ev (fun H3 e3 => k _ H3 ((e1.trans e2).trans e3) rfl)
    have b8 : b ≤ 8 := by have := of_decide_eq_false z; omega
    refine q_par (ea_cons (ev_var rfl) (ea_cons (ev_mul ev_c (ev_var rfl) (.inl ⟨by omega, by omega⟩)) ea_nil)) (fun H3 e3 => ?_)
    have e0 := (e1.trans e2).trans e3
    refine q_while (fun m σ H' => ∃ lo hi : Nat, ∃ x, σ = [some (.int (h : Int)), some (.int (b : Int)), some (.int (lo : Int)), some (.int (hi : Int)), x] ∧ Ex H H' ∧ ch lo b ≤ h ∧ lo < hi ∧ b ≤ lo ∧ hi ≤ 2 * (h + b) ∧ m = 3000000 - hi) (3000000 - 2 * b) ⟨b, 2 * b, none, ?_, e0, by rw [ch_self]; exact h1, by omega, Nat.le_refl _, by omega, rfl⟩ ?_
    · show _ = [_, _, _, some (V.int ((2 * b : Nat) : Int)), _]
      rw [show ((2 * b : Nat) : Int) = 2 * (b : Int) by omega]
      rfl
    · rintro m σ H' ⟨lo, hi, x, rfl, e, hl, hlt, hbl, hhi, hm⟩
      refine ⟨decide (((ch hi b : Nat) : Int) ≤ (h : Int)), et_test (ev_cmp (evp_call (ea_cons (ev_var rfl) (ea_cons (ev_var rfl) ea_nil)) (SpP.of fun H1 _ => ⟨hi, b, rfl, by omega, by omega, rfl⟩)).ev (ev_var rfl)), fun z H4 e4 => ?_, fun z H4 e4 => ?_⟩
      · have hz : ch hi b ≤ h := by have := of_decide_eq_true z; omega
        have hb := ch_le_top b1 (show b ≤ hi by omega)
        refine ⟨fun σ' H' => σ' = [some (.int (h : Int)), some (.int (b : Int)), some (.int (hi : Int)), some (.int ((2 * hi : Nat) : Int)), x] ∧ Ex H H', fun σ' H'' ⟨e5, e6⟩ => ⟨3000000 - 2 * hi, by omega, hi, 2 * hi, x, e5, e6, hz, by omega, by omega, by omega, rfl⟩, ?_⟩
        refine s_par (a := .int (hi : Int)) (b := .int (2 * (hi : Int))) (ea_cons (ev_var rfl) (ea_cons (ev_mul ev_c (ev_var rfl) (.inl ⟨by omega, by omega⟩)) ea_nil)) (fun H5 e5 => ⟨?_, (e.trans e4).trans e5⟩)
        rw [show ((2 * hi : Nat) : Int) = 2 * (hi : Int) by omega]
        rfl
      · have hz : h < ch hi b := by have := of_decide_eq_false z; omega
        refine q_while (fun m σ H' => ∃ lo hi : Nat, ∃ x, σ = [some (.int (h : Int)), some (.int (b : Int)), some (.int (lo : Int)), some (.int (hi : Int)), x] ∧ Ex H H' ∧ ch lo b ≤ h ∧ lo < hi ∧ h < ch hi b ∧ hi ≤ 3000000 ∧ m = hi - lo) (hi - lo) ⟨lo, hi, x, rfl, e.trans e4, hl, hlt, hz, by omega, rfl⟩ ?_
        rintro m' σ H'' ⟨lo, hi, x, rfl, e, hl, hlt, hz, hhi, rfl⟩
        refine ⟨decide (1 < (hi : Int) - (lo : Int)), et_test (ev_cmp (ev_bin (ev_var rfl) (ev_var rfl)) ev_c), fun z H5 e5 => ?_, fun z H5 e5 => ?_⟩
        · have hz2 : lo + 1 < hi := by have := of_decide_eq_true z; omega
          refine ⟨fun σ' H' => ∃ lo2 hi2 : Nat, ∃ x, σ' = [some (.int (h : Int)), some (.int (b : Int)), some (.int (lo2 : Int)), some (.int (hi2 : Int)), x] ∧ Ex H H' ∧ ch lo2 b ≤ h ∧ lo2 < hi2 ∧ h < ch hi2 b ∧ hi2 ≤ 3000000 ∧ hi2 - lo2 < hi - lo, fun σ' H'' ⟨lo2, hi2, x, a1, a2, a3, a4, a5, a6, a7⟩ => ⟨hi2 - lo2, a7, lo2, hi2, x, a1, a2, a3, a4, a5, a6, rfl⟩, ?_⟩
          refine q_asg (v := .int (((lo + hi) / 2 : Nat) : Int)) (ev_is (ev_fdiv (ev_bin (ev_var rfl) (ev_var rfl)) ev_c ⟨by omega, by omega⟩) ?_) (fun H6 e6 => ?_)
          · rw [show ((lo : Int) + (hi : Int)) / 2 = (((lo + hi) / 2 : Nat) : Int) by omega]
          · have m1 : lo < (lo + hi) / 2 := by omega
            have m2 : (lo + hi) / 2 < hi := by omega
            generalize (lo + hi) / 2 = mid at *
            refine s_if (b := decide (((ch mid b : Nat) : Int) ≤ (h : Int))) (et_test (ev_cmp (evp_call (ea_cons (ev_var rfl) (ea_cons (ev_var rfl) ea_nil)) (SpP.of fun H1 _ => ⟨mid, b, rfl, by omega, by omega, rfl⟩)).ev (ev_var rfl))) (fun y H7 e7 => ?_) (fun y H7 e7 => ?_)
            · have hy : ch mid b ≤ h := by have := of_decide_eq_true y; omega
              exact s_asg (v := .int (mid : Int)) (ev_var rfl) (fun H8 e8 => ⟨mid, hi, some (.int (mid : Int)), rfl, (((e.trans e5).trans e6).trans e7).trans e8, hy, m2, hz, hhi, by omega⟩)
            · have hy : h < ch mid b := by have := of_decide_eq_false y; omega
              exact s_asg (v := .int (mid : Int)) (ev_var rfl) (fun H8 e8 => ⟨lo, mid, some (.int (mid : Int)), rfl, (((e.trans e5).trans e6).trans e7).trans e8, hl, m1, hy, by omega, by omega⟩)
        · have hz2 : hi = lo + 1 := by have := of_decide_eq_false z; omega
          subst hz2
          refine s_ret (v := .int (lo : Int)) (ev_var rfl) (fun H6 e6 => k _ H6 ((e.trans e5).trans e6) ?_)
          rw [gt_uniq b1 hl hz]
          rfl
/-- pairs of natural numbers -/
def rP2 (K : PySem.W.Frag) (p : Nat × Nat) : Rl := rT K [.int (p.1 : Int), .int (p.2 : Int)]
theorem rP2_stb (K : PySem.W.Frag) (p : Nat × Nat) : Stb (rP2 K p) := rT_stb K _
def sp_shares_of (K : PySem.W.Frag) : Sp := spR fun vs _ R => ∃ h d : Nat, vs = [.int (h : Int), .int (d : Int)] ∧ h ≤ 1000000 ∧ 1 ≤ d ∧ d ≤ 9000 ∧ R = rL K (rP2 K) (shl d h)
abbrev N_shares_of : List Str := ["number", "degree", "found", "bottom", "top"]
theorem sc_shares_of : FnScope N_shares_of ["number", "degree"] (defScope s_shares_of) := ⟨rfl, rfl, rfl, by decide +kernel, rfl, by decide +kernel, by decide +kernel⟩
theorem has_shares_of (T : Tx K mg) : Has P w K mg base "shares_of" ["number", "degree"] 3 (sp_shares_of K) := by
  have h_choices_of : Has P w K mg base _ _ 1 sp_choices_of := has_choices_of T
  have h_greatest_top : Has P w K mg base _ _ 2 sp_greatest_top := has_greatest_top T
  obtain ⟨fd, F⟩ := T.fn_shares_of
  refine ⟨⟨fd, F.ok sc_shares_of (fun vs H Q E h => ?_) (fun cdv A outer s H vs Q E hr h => ?_), F.bindsN fun _ _ _ _ _ _ us hl => match us, hl with | [_, _], _ => rfl⟩, F.kp, T.g_shares_of⟩
  · obtain ⟨R, ⟨a, b, rfl, _⟩, _⟩ := h; rfl
  · obtain ⟨R, ⟨h, d, rfl, h2, d1, d2, rfl⟩, k⟩ := h
    refine ⟨_, PSs.nox (pss_cons (ps_par (i := 2) (j := 3) (by rfl) sc_shares_of.nd rfl rfl (by decide) rfl rfl (pa_cons (pe_lst pa_nil) (pa_cons (pv 1) pa_nil)) (by rfl)) (pss_cons (ps_while PassesOwn.never (pt_cmpR op_gt (pv 0) pe_int (nomark _)) (pss_cons (ps_set (i := 4) sc_shares_of.nd rfl (Or.inl rfl) (pe_h h_greatest_top (hr.mono (by decide)) pass0 (pa_cons (pv 0) (pa_cons (pv 3) pa_nil)))) (pss_cons (ps_expr (pe_bm PySem.F.plainAttrs_list PySem.F.slot_list_append PySem.F.type_list_append mt_append (pv 2) (pa_cons (pe_tup (pa_cons (pv 4) (pa_cons (pv 3) pa_nil))) pa_nil))) (pss_one (ps_par (i := 0) (j := 3) (by rfl) sc_shares_of.nd rfl rfl (by decide) rfl rfl (pa_cons (pe_op op_sub (pv 0) (pe_h h_choices_of (hr.mono (by decide)) pass0 (pa_cons (pv 4) (pa_cons (pv 3) pa_nil)))) (pa_cons (pe_op op_sub (pv 3) pe_int) pa_nil)) (by rfl)))))) (pss_one (ps_ret (pv 2))))), ?_⟩
    refine q_parL (b := .int (d : Int)) (el_lst ea_nil (Nat.zero_le _)) (ev_var rfl) (fun l H1 hl e1 hl1 => ?_)
    refine q_while (fun m σ H' => ∃ (h' : Nat) (vs : List V) (is : List (Nat × Nat)) (x : Option V), σ = [some (.int (h' : Int)), some (.int (d : Int)), some (.ref l), some (.int (m : Int)), x] ∧ Ex H H' ∧ H' l = some (.lst vs) ∧ Pd (rP2 K) H' vs is ∧ is ++ shl m h' = shl d h ∧ (m = 0 → h' = 0) ∧ h' ≤ h ∧ m ≤ d ∧ vs.length + m ≤ d) d
      ⟨h, [], [], none, rfl, e1, hl1, Pd.nil, rfl, fun z => by omega, Nat.le_refl _, Nat.le_refl _, by simp⟩ ?_
    rintro m σ H' ⟨h', vs, is, x, rfl, e, hl', pd, hs, h0, hh, hm, hv⟩
    refine ⟨decide ((0 : Int) < (h' : Int)), et_test (ev_cmp (ev_var rfl) ev_c), fun z H3 e3 => ?_, fun z H3 e3 => ?_⟩
    · have hz : 0 < h' := by have := of_decide_eq_true z; omega
      obtain ⟨i, rfl⟩ : ∃ i, m = i + 1 := ⟨m - 1, by
        by_cases c : m = 0
        · have := h0 c; omega
        · omega⟩
      have hg := gt_spec (h := h') (i := i + 1) (by omega)
      have hgh := gt_hi (h := h') (i := i + 1) (by omega) hz
      refine ⟨fun σ' H' => ∃ (vs' : List V), σ' = [some (.int ((h' - ch (gt h' (i + 1)) (i + 1) : Nat) : Int)), some (.int (d : Int)), some (.ref l), some (.int (i : Int)), some (.int ((gt h' (i + 1) : Nat) : Int))] ∧ Ex H H' ∧ H' l = some (.lst vs') ∧ Pd (rP2 K) H' vs' (is ++ [(gt h' (i + 1), i + 1)]) ∧ vs'.length + i ≤ d,
        fun σ' H'' ⟨vs', a1, a2, a3, a4, a5⟩ => ⟨i, by omega, _, vs', _, _, a1, a2, a3, a4, ?_, ?_, by omega, by omega, a5⟩, ?_⟩
      · rw [← hs, shl_pos hz, List.append_assoc]
        rfl
      · intro e0
        subst e0
        exact share_one h'
      · refine q_asg (v := .int ((gt h' (i + 1) : Nat) : Int)) (evp_call (ea_cons (ev_var rfl) (ea_cons (ev_var rfl) ea_nil)) (SpP.of fun H1 _ => ⟨h', i + 1, rfl, hz, by omega, by omega, by omega, rfl⟩)).ev (fun H4 e4 => ?_)
        have hl4 := e4 _ _ (e3 _ _ hl')
        refine q_appU hl4 (ev_var rfl) (eu_tup (ea_cons (ev_var rfl) (ea_cons (ev_var rfl) ea_nil)) (show 2 ≤ 100000 by decide)) (by omega) (fun p H5 hp e5 hp5 => ?_)
        have pd5 := pd_app (i := (gt h' (i + 1), i + 1)) hl4 e5 (pd.keep (rP2_stb K) (Kp.ex (e3.trans e4))) (rP2_stb K) ⟨p, rfl, st_of hp5⟩
        have ex5 : Ex H (upd H5 l (.lst (vs ++ [.ref p]))) := Ex.mut (((e.trans e3).trans e4).trans e5) hl
        refine s_par (a := .int ((h' - ch (gt h' (i + 1)) (i + 1) : Nat) : Int)) (b := .int (i : Int)) (ea_cons (ev_is (ev_bin (ev_var rfl) (evp_call (ea_cons (ev_var rfl) (ea_cons (ev_var rfl) ea_nil)) (SpP.of fun H1 _ => ⟨gt h' (i + 1), i + 1, rfl, by omega, by omega, rfl⟩)).ev) ?_) (ea_cons (ev_is (ev_bin (ev_var rfl) ev_c) ?_) ea_nil)) (fun H6 e6 => ⟨vs ++ [.ref p], rfl, ex5.trans e6, e6 _ _ upd_same, pd5.keep (rP2_stb K) (Kp.ex e6), ?_⟩)
        · rw [Int.ofNat_sub hg.1]
        · rw [show ((i + 1 : Nat) : Int) - 1 = (i : Int) by omega]
        · rw [List.length_append, List.length_singleton]
          omega
    · have hz : h' = 0 := by have := of_decide_eq_false z; omega
      subst hz
      rw [shl_zero, List.append_nil] at hs
      subst hs
      exact s_ret (v := .ref l) (ev_var rfl) (fun H4 e4 => k _ H4 ((e.trans e3).trans e4) ⟨l, vs, rfl, sq_of (e4 _ _ (e3 _ _ hl')), pd.keep (rP2_stb K) (Kp.ex (e3.trans e4))⟩)
end
end PLW
end
section
set_option Elab.async false
set_option linter.all false
set_option maxRecDepth 100000
set_option maxHeartbeats 2000000
namespace PLW
open PySem PySem.Spec PyProof.Rows L2 Evl RZ
open PL PySem.W
/-! sum, max of tuples of whole numbers; max with default; max of pairs -/
section
variable {prog : Program} {w : World} {A : Around} {E : Value → Shared → Prop} {s : Shared} {l : Addr}
theorem sum_tup {its : List Value} {ns : List Int} {Q : Value → Shared → Prop} (hh : A.handled = none) (hl : s.heap.IsTuple l its.toArray) (hi : IntsAre its ns)
    (h : ∀ h' tk t', (∀ b o, s.heap.get? b = some o → h'.get? b = some o) → Q (.int ns.sum t') { s with heap := h', toks := tk }) : wpAny (model prog w) A (call (.builtin "sum") [.ref l]) Q E s := by
  obtain ⟨xs, e⟩ := hi.allInts.items
  have hn : numsOf (intItems xs).toList = ns := by rw [← e]; exact hi.numsOf
  rw [nums_intItems] at hn
  rw [e] at hl
  have hlt : l < s.heap.objs.size := by obtain ⟨_, e, _⟩ := hl; exact Heap.lt_size e
  refine call_sum_walkG (wpAny_pyIter_tuple hl ?_)
  refine ⟨_, _, _, _, _, _, numAt xs, rfl, Walks.tuple (A := A.in1) hh _ l (Nat.ne_of_lt hlt) (intItems xs), ⟨⟨_, Heap.get?_push_size _ rfl, rfl, rfl⟩, ?_⟩, ?_, (fun _ _ => intItems_at), fun h' tk t' hk => ?_⟩
  · obtain ⟨o, h1, h2, h3⟩ := hl
    exact ⟨o, Heap.get?_push_of_some _ h1, h2, h3⟩
  · intro b hb
    show b < (s.heap.push _).objs.size
    rw [Heap.size_push]
    rcases List.mem_cons.mp hb with rfl | hb
    · exact Nat.lt_succ_self _
    · rcases List.mem_cons.mp hb with rfl | hb
      · exact Nat.lt_succ_of_lt hlt
      · cases hb
  · have := h h' tk t' (fun b o e => hk b o (fun hm => by
      rcases List.mem_cons.mp hm with e1 | hm
      · exact absurd (e1 ▸ Heap.lt_size e) (Nat.lt_irrefl _)
      · cases hm) (Heap.get?_push_of_some _ e))
    have e2 : (intItems xs).size = xs.size := by simp [intItems]
    rw [e2, preSum_eq, List.take_of_length_le (by simp), hn]
    exact this
end
def rSumT (K : PySem.W.Frag) : List V → Hp → VK → Prop := fun vs H Q => ∃ (a : Addr) (ns : List Int), vs = [V.ref a] ∧ SqT K H a (ns.map V.int) ∧ Q (.int ns.sum) H
def rMaxT (K : PySem.W.Frag) : List V → Hp → VK → Prop := fun vs H Q => ∃ (a : Addr) (ns : List Int), vs = [V.ref a] ∧ SqT K H a (ns.map V.int) ∧ 0 < ns.length ∧ ∀ m, m ∈ ns → (∀ y, y ∈ ns → y ≤ m) → Q (.int m) H
def rMaxD (K : PySem.W.Frag) : List V → List V → Hp → VK → Prop := fun vs zs H Q => ∃ (a : Addr) (ns : List Int) (d : Int), vs = [V.ref a] ∧ zs = [V.int d] ∧ SqL K H a (ns.map V.int) ∧ (ns = [] → Q (.int d) H) ∧ ∀ m, m ∈ ns → (∀ y, y ∈ ns → y ≤ m) → Q (.int m) H
def rMaxP (K : PySem.W.Frag) : List V → Hp → VK → Prop := fun vs H Q => ∃ (a : Addr) (xs : List V) (ps : List (Int × Int)), vs = [V.ref a] ∧ SqL K H a xs ∧ Pd (fun (p : Int × Int) => rT K [.int p.1, .int p.2]) H xs ps ∧ 0 < ps.length ∧ ∀ v p, p ∈ ps → (∀ y, y ∈ ps → y.1 ≤ p.1) → rT K [.int p.1, .int p.2] H v → Q v H
theorem foldmax : ∀ (ns : List Int) (n : Int), ns.foldl max n ∈ n :: ns ∧ ∀ y ∈ n :: ns, y ≤ ns.foldl max n
  | [], n => ⟨by simp, fun y hy => by simp at hy; subst hy; exact Int.le_refl _⟩
  | m :: ns, n => by
    obtain ⟨h1, h2⟩ := foldmax ns (max n m)
    rw [List.foldl_cons]
    refine ⟨?_, fun y hy => ?_⟩
    · rcases List.mem_cons.mp h1 with e | e
      · rw [e]
        rcases Int.le_total n m with c | c
        · rw [Int.max_eq_right c]; simp
        · rw [Int.max_eq_left c]; simp
      · simp [e]
    · have h3 := h2 (max n m) (by simp)
      rcases List.mem_cons.mp hy with e | hy
      · subst e; omega
      · rcases List.mem_cons.mp hy with e | hy
        · subst e; omega
        · exact h2 y (by simp [hy])
theorem dpAll_ints {K : PySem.W.Frag} {H : Hp} : ∀ ns : List Int, DpAll K H (ns.map V.int) (ns.map PyData.int)
  | [] => .nil
  | n :: ns => .cons (.int n) (dpAll_ints ns)
theorem alike_ints' (ns : List Int) : AlikeAll (ns.map PyData.int) := ⟨fun x hx y hy => by
  obtain ⟨i, _, rfl⟩ := List.mem_map.mp hx
  obtain ⟨j, _, rfl⟩ := List.mem_map.mp hy
  simp [alike], fun x hx => by
  obtain ⟨i, _, rfl⟩ := List.mem_map.mp hx
  intro z; cases z⟩
section
variable {X : Cx}
theorem cr_sumT (hc : X.calm = true) : CallR X (.builtin "sum") (rSumT X.K) := by
  intro pins s σ H vs us Q I r h
  obtain ⟨a, ns, rfl, hs, q⟩ := h
  obtain ⟨its, rv, hl, _⟩ := I.tuple hs
  rw [Vals.ref1 r]
  exact sum_tup (I.ok.hd hc) hl rv.ints fun h' tk t' hk => ⟨.int _, H, I.kept hk, ⟨_, rfl⟩, q⟩
theorem reads_int {h : Heap} {v : Value} {n : Int} {as : List Addr} (r : Reads h v (.int n) as) : ∃ t, v = .int n t := by
  cases r
  exact ⟨_, rfl⟩
theorem cr_maxT (hc : X.calm = true) (hu : X.A.units + 1 < cLine) : CallR X (.builtin "max") (rMaxT X.K) := by
  intro pins s σ H vs us Q I r h
  obtain ⟨a, ns, rfl, hs, hne, q⟩ := h
  obtain ⟨its, rv, hl, _⟩ := I.tuple hs
  rw [Vals.ref1 r]
  obtain ⟨as, hr⟩ := Dp.readsAll I (ns.map PyData.int) (ns.map V.int) its (dpAll_ints ns) rv
  cases ns with
  | nil => simp at hne
  | cons n ns =>
    refine max_tuple_data (x := .int n) (xs := ns.map PyData.int) (I.ok.hd hc) hl (by simpa using hr) (alike_ints' (n :: ns)) (by
      show X.A.units + 1 + PyData.depthAll ((n :: ns).map PyData.int) < cLine
      rw [depth_ints]
      exact hu) fun i v h' tk bs hv hR hk => ?_
    rw [maxD_ints] at hR
    obtain ⟨t, rfl⟩ := reads_int hR
    obtain ⟨h1, h2⟩ := foldmax ns n
    exact ⟨.int _, H, I.kept hk, ⟨_, rfl⟩, q _ h1 h2⟩
theorem cr_maxD (hc : X.calm = true) (hu : X.A.units + 1 < cLine) : CallRK X (.builtin "max") [Str.ofString "default"] (rMaxD X.K) := by
  intro pins s σ H vs zs us ws Q I r rz h
  obtain ⟨a, ns, d, rfl, rfl, hs, h0, q⟩ := h
  obtain ⟨its, rv, hl, _⟩ := I.list hs
  obtain rfl := Vals.ref1 r
  obtain ⟨w1, rfl, e1⟩ := vals1 rz
  obtain ⟨tk0, rfl⟩ : ∃ t, w1 = Value.int d t := e1
  obtain ⟨as, hr⟩ := Dp.readsAll I (ns.map PyData.int) (ns.map V.int) its (dpAll_ints ns) rv
  refine max_list_default (xs := ns.map PyData.int) (I.ok.hd hc) hl.isList (by simpa using hr) (alike_ints' ns) (by rw [depth_ints]; exact hu) (fun e h' tk hk => ?_) (fun y ys i v h' tk bs e hv hR hk => ?_)
  · exact ⟨.int d, H, I.kept hk, ⟨_, rfl⟩, h0 (by simpa using e)⟩
  · cases ns with
    | nil => cases e
    | cons n ns =>
      rw [List.map_cons] at e
      obtain ⟨rfl, rfl⟩ := List.cons.inj e
      rw [maxD_ints] at hR
      obtain ⟨t, rfl⟩ := reads_int hR
      obtain ⟨h1, h2⟩ := foldmax ns n
      exact ⟨.int _, H, I.kept hk, ⟨_, rfl⟩, q _ h1 h2⟩
theorem Pd.uncons {ι : Type} {R : ι → Rl} {H : Hp} {x : V} {xs : List V} {p : ι} {ps : List ι} (h : Pd R H (x :: xs) (p :: ps)) : R p H x ∧ Pd R H xs ps :=
  ⟨h.2 0 x p rfl rfl, by have := h.1; simp at this; exact this, fun j v i h1 h2 => h.2 (j + 1) v i (by simpa using h1) (by simpa using h2)⟩
def encP (p : Int × Int) : PyData := .tuple [.int p.1, .int p.2]
theorem dpAll_pairs {K : PySem.W.Frag} {H : Hp} : ∀ {xs : List V} {ps : List (Int × Int)}, Pd (fun (p : Int × Int) => rT K [.int p.1, .int p.2]) H xs ps → DpAll K H xs (ps.map encP)
  | [], [], _ => .nil
  | [], _ :: _, h => by have := h.1; simp at this
  | _ :: _, [], h => by have := h.1; simp at this
  | x :: xs, p :: ps, h => by
    obtain ⟨⟨a, rfl, h1⟩, h2⟩ := h.uncons
    exact .cons (.tup h1 (.cons (.int _) (.cons (.int _) .nil))) (dpAll_pairs h2)
theorem maxD_enc : ∀ (ps : List (Int × Int)) (p : Int × Int), ∃ m ∈ p :: ps, maxD (encP p) (ps.map encP) = encP m ∧ ∀ y ∈ p :: ps, y.1 ≤ m.1
  | [], p => ⟨p, by simp, rfl, fun y hy => by simp at hy; subst hy; exact Int.le_refl _⟩
  | q :: ps, p => by
    have e : maxD (encP p) ((q :: ps).map encP) = maxD (encP (if p.1 < q.1 ∨ (p.1 = q.1 ∧ p.2 < q.2) then q else p)) (ps.map encP) := by
      show List.foldl _ (if dataLt (encP p) (encP q) then encP q else encP p) (ps.map encP) = _
      unfold encP
      rw [dataLt_ii]
      by_cases c : p.1 < q.1 ∨ (p.1 = q.1 ∧ p.2 < q.2)
      · rw [if_pos c, decide_eq_true c, if_pos rfl]; rfl
      · rw [if_neg c, decide_eq_false c, if_neg Bool.false_ne_true]; rfl
    obtain ⟨m, h1, h2, h3⟩ := maxD_enc ps (if p.1 < q.1 ∨ (p.1 = q.1 ∧ p.2 < q.2) then q else p)
    refine ⟨m, ?_, e.trans h2, fun y hy => ?_⟩
    · rcases List.mem_cons.mp h1 with z | z
      · rw [z]
        split <;> simp
      · simp [z]
    · have h4 := h3 (if p.1 < q.1 ∨ (p.1 = q.1 ∧ p.2 < q.2) then q else p) (by simp)
      have h5 : p.1 ≤ m.1 ∧ q.1 ≤ m.1 := by
        split at h4 <;> omega
      rcases List.mem_cons.mp hy with z | z
      · rw [z]; exact h5.1
      · rcases List.mem_cons.mp z with z | z
        · rw [z]; exact h5.2
        · exact h3 y (by simp [z])
theorem cr_maxP (hc : X.calm = true) (hu : X.A.units + 3 < cLine) : CallR X (.builtin "max") (rMaxP X.K) := by
  intro pins s σ H vs us Q I r h
  obtain ⟨a, xs, ps, rfl, hs, pd, hne, q⟩ := h
  obtain ⟨its, rv, hl, _⟩ := I.list hs
  rw [Vals.ref1 r]
  obtain ⟨as, hr⟩ := Dp.readsAll I (ps.map encP) xs its (dpAll_pairs pd) rv
  cases ps with
  | nil => simp at hne
  | cons p ps =>
    have dp : ∀ l : List (Int × Int), PyData.depthAll (l.map encP) ≤ 2 := fun l => by
      induction l with
      | nil => simp [PyData.depthAll]
      | cons a l ih => simp [PyData.depthAll, encP, PyData.depth] at ih ⊢; omega
    refine max_list_data (x := encP p) (xs := ps.map encP) (I.ok.hd hc) hl.isList (by simpa using hr) ⟨fun x hx y hy => ?_, fun x hx => ?_⟩ (by
      have := dp (p :: ps)
      show X.A.units + 1 + PyData.depthAll ((p :: ps).map encP) < cLine
      omega) fun i v h' tk bs hv hR hk => ?_
    · obtain ⟨i, _, rfl⟩ := List.mem_map.mp (show x ∈ (p :: ps).map encP from hx)
      obtain ⟨j, _, rfl⟩ := List.mem_map.mp (show y ∈ (p :: ps).map encP from hy)
      simp [encP, alike, alikeAll]
    · obtain ⟨i, _, rfl⟩ := List.mem_map.mp (show x ∈ (p :: ps).map encP from hx)
      intro z; cases z
    · obtain ⟨m, h1, h2, h3⟩ := maxD_enc ps p
      rw [h2] at hR
      have hv' : its[i]? = some v := by simpa using hv
      have hi : i < xs.length := by
        rw [rv.length]
        exact (List.getElem?_eq_some_iff.mp hv').1
      obtain ⟨u, hu1, ru⟩ := Vals.get rv (List.getElem?_eq_getElem hi)
      rw [hv'] at hu1
      obtain rfl := Option.some.inj hu1
      obtain ⟨pi, hp1, hp2⟩ := pd.get (List.getElem?_eq_getElem hi)
      have hm : pi = m := by
        obtain ⟨t, e1, h5⟩ := id hp2
        obtain ⟨as2, hR2⟩ := Dp.reads I (encP pi) xs[i] v (by rw [e1]; exact .tup h5 (.cons (.int _) (.cons (.int _) .nil))) ru
        have e2 := (Reads.unique (reads_keeps hk hR2) _ _ hR).1
        unfold encP at e2
        simp at e2
        exact Prod.ext e2.1 e2.2
      rw [hm] at hp2
      exact ⟨xs[i], H, I.kept hk, ru, q _ m h1 h3 hp2⟩
end
end PLW
end
section
set_option Elab.async false
set_option linter.all false
set_option maxRecDepth 100000
set_option maxHeartbeats 2000000
namespace PLW
open PySem PySem.Spec PyProof.Rows L2 Evl RZ
open PL PySem.W
/-! new lists of related values; loops over them -/
def EvF {ι : Type} (te : TE) (σ : L2.St) (H : Hp) (R : ι → Rl) (is : List ι) : Prop := ∀ H1, Ex H H1 → ∀ Q : VK, (∀ p vs H2, H1 p = none → Ex H1 H2 → H2 p = some (.lst vs) → Pd R H2 vs is → Q (.ref p) H2) → te σ H1 Q
section
variable {K : PySem.W.Frag} {σ : L2.St} {H H' : Hp} {ta tb te tl : TE} {v x y z : V} {D : Ends} {tz tu : TS} {g : TG} {ι κ : Type} {R : ι → Rl} {S : κ → Rl} {is : List ι} {i : Nat}
theorem EvF.evp (h : EvF te σ H R is) : EvP te σ H (rL K R is) := fun H1 e Q q => h H1 e Q fun p vs H2 _ e2 hp pd => q _ H2 e2 ⟨p, vs, rfl, sq_of hp, pd⟩
theorem EvF.mono (e : Ex H H') (h : EvF te σ H R is) : EvF te σ H' R is := fun H1 a Q q => h H1 (e.trans a) Q q
theorem s_asgF (h : EvF te σ H R is) (k : ∀ p vs H1, H p = none → Ex H H1 → H1 p = some (.lst vs) → Pd R H1 vs is → D.nx (σ.set i (some (.ref p))) H1) : tAsg te (gName i) D σ H := h H (Ex.refl H) _ fun p vs H1 hp e h1 pd => k p vs H1 hp e h1 pd
theorem q_asgF (h : EvF te σ H R is) (k : ∀ p vs H1, H p = none → Ex H H1 → H1 p = some (.lst vs) → Pd R H1 vs is → tz D (σ.set i (some (.ref p))) H1) : tSeq (tAsg te (gName i)) tz D σ H := s_asgF (D := { D with nx := tz D }) h k
theorem q_asgP {Rr : Rl} (h : EvP te σ H Rr) (k : ∀ v H1, Ex H H1 → Rr H1 v → tz D (σ.set i (some v)) H1) : tSeq (tAsg te (gName i)) tz D σ H := s_asgP (D := { D with nx := tz D }) h k
theorem s_retF (h : EvF te σ H R is) (k : ∀ p vs H1, H p = none → Ex H H1 → H1 p = some (.lst vs) → Pd R H1 vs is → D.rt (.ref p) H1) : tRet te D σ H := h H (Ex.refl H) _ fun p vs H1 hp e h1 pd => k p vs H1 hp e h1 pd
/-- a loop over a new list: all that is asked, once the list stands -/
def LoopL (K : PySem.W.Frag) (g : TG) (tu : TS) (D : Ends) (σ : L2.St) (a : Addr) (vs : List V) (H1 : Hp) : Prop :=
  ∃ Pv : Nat → L2.St → Hp → Prop, Pv 0 σ H1 ∧ (∀ i σ' H', i ≤ vs.length → Pv i σ' H' → SqL K H' a vs) ∧
    (∀ i x σ' H', vs[i]? = some x → Pv i σ' H' → g x σ' H' fun σ2 H2 => tu { D with nx := Pv (i + 1), ct := Pv (i + 1), bk := D.nx } σ2 H2) ∧ ∀ σ' H', Pv vs.length σ' H' → D.nx σ' H'
theorem s_forF (h : EvF tl σ H R is) (k : ∀ p vs H1, H p = none → Ex H H1 → H1 p = some (.lst vs) → Pd R H1 vs is → LoopL K g tu D σ p vs H1) : tFor (iList K tl) g tu D σ H :=
  h H (Ex.refl H) _ fun p vs H1 hp e h1 pd => by
    obtain ⟨Pv, a, b, c, d⟩ := k p vs H1 hp e h1 pd
    exact ⟨p, rfl, ⟨vs, sq_of h1⟩, for_list Pv a b c d⟩
theorem q_forF (h : EvF tl σ H R is) (k : ∀ p vs H1, H p = none → Ex H H1 → H1 p = some (.lst vs) → Pd R H1 vs is → LoopL K g tu { D with nx := tz D } σ p vs H1) : tSeq (tFor (iList K tl) g tu) tz D σ H := s_forF (D := { D with nx := tz D }) h k
theorem s_forP (h : EvP tl σ H (rL K R is)) (k : ∀ p vs H1, Ex H H1 → SqL K H1 p vs → Pd R H1 vs is → LoopL K g tu D σ p vs H1) : tFor (iList K tl) g tu D σ H :=
  h H (Ex.refl H) _ fun v H1 e ⟨p, vs, ev, h1, pd⟩ => by
    obtain ⟨Pv, a, b, c, d⟩ := k p vs H1 e h1 pd
    subst ev
    exact ⟨p, rfl, ⟨vs, h1⟩, for_list Pv a b c d⟩
theorem q_forP (h : EvP tl σ H (rL K R is)) (k : ∀ p vs H1, Ex H H1 → SqL K H1 p vs → Pd R H1 vs is → LoopL K g tu { D with nx := tz D } σ p vs H1) : tSeq (tFor (iList K tl) g tu) tz D σ H := s_forP (D := { D with nx := tz D }) h k
/-- the comprehension gives a new list -/
theorem evf_lc {wi : TI} {t : TT} {vs : List Nat} {f : ι → Bool} {u : ι → κ} (hi : EvI wi σ H R is) (hs : ∀ k, Stb (S k)) (hz : is.length ≤ 40000) (gm : ∀ v σ H Q Q', (∀ σ' H', Q σ' H' → Q' σ' H') → g v σ H Q → g v σ H Q')
    (ht : ∀ i x H1, Ex H H1 → i ∈ is → R i H1 x → g x (wipe σ vs) H1 fun σ2 H2 => H2 = H1 ∧ wipe σ2 vs = wipe σ vs ∧ EvT t σ2 H1 (f i) ∧ (f i = true → EvP te σ2 H1 (S (u i)))) : EvF (tLc wi g t te vs) σ H S ((is.filter f).map u) := fun H0 e0 Q q =>
  hi H0 e0 _ fun J H1 St e1 st stE fd Dl hD => by
    let W : Nat → Hp → Prop := fun i H' => i ≤ is.length ∧ Ex H1 H' ∧ ∃ xs, H' Dl = some (.lst xs) ∧ Pd S H' xs (((is.take i).filter f).map u)
    have fl : ∀ i, (((is.take i).filter f).map u).length ≤ i := fun i => by
      rw [List.length_map]
      exact Nat.le_trans (List.length_filter_le _ _) (List.length_take_le _ _)
    refine ⟨fun i m H' => m = is.length - i ∧ W i H', ⟨is.length, by simp, Nat.zero_le _, Ex.new hD, [], upd_same, Pd.nil⟩, ?_⟩
    rintro i m H' ⟨rfl, hle, e2, xs, hxs, pd⟩
    have stH := stE _ _ e2 st
    by_cases hlt : i < is.length
    · have hk : is[i]? = some is[i] := List.getElem?_eq_getElem hlt
      refine .inr ⟨fd.go i H' stH hlt, W (i + 1), fun H'' w => ⟨is.length - (i + 1), by omega, rfl, w⟩, fun x H'' hy => ?_⟩
      obtain ⟨e3, hR⟩ := fd.yld i H' x H'' stH hy _ hk
      refine gm _ _ _ _ _ ?_ (ht _ x H'' (((e0.trans e1).trans e2).trans e3) (List.getElem_mem hlt) hR)
      rintro σ2 H2 ⟨rfl, hw, hT, hE⟩
      refine ⟨hw, hT _ (Ex.refl _) _ fun H3 e4 => ?_⟩
      have tk : is.take (i + 1) = is.take i ++ [is[i]] := by rw [List.take_succ, hk]; rfl
      cases hf : f is[i] with
      | true =>
        show te σ2 H3 _
        refine hE hf H3 e4 _ fun y H4 e5 hS => ?_
        have e6 := (e3.trans e4).trans e5
        refine ⟨xs, e6 _ _ hxs, sz_lt (by have := fl i; rw [← pd.1] at this; omega), hlt, Ex.mut (e2.trans e6) hD, _, upd_same, ?_⟩
        rw [tk, List.filter_append, List.map_append, List.filter_cons, if_pos hf]
        exact pd_app hxs e6 pd hs hS
      | false =>
        show W (i + 1) H3
        have e6 := e3.trans e4
        refine ⟨hlt, e2.trans e6, xs, e6 _ _ hxs, ?_⟩
        rw [tk, List.filter_append, List.map_append, List.filter_cons, if_neg (by rw [hf]; decide)]
        rw [show (([] : List ι).filter f).map u = [] from rfl, List.append_nil]
        exact pd.keep hs (Kp.ex e6)
    · have hi : i = is.length := by omega
      subst hi
      refine .inl ⟨fd.stop H' stH, ?_⟩
      rw [List.take_length] at pd
      exact q Dl xs H' (fresh_back e1 hD) (e1.trans e2) hxs pd
theorem evf_lc0 {wi : TI} {vs : List Nat} {u : ι → κ} (hi : EvI wi σ H R is) (hs : ∀ k, Stb (S k)) (hz : is.length ≤ 40000) (gm : ∀ v σ H Q Q', (∀ σ' H', Q σ' H' → Q' σ' H') → g v σ H Q → g v σ H Q')
    (ht : ∀ i x H1, Ex H H1 → i ∈ is → R i H1 x → g x (wipe σ vs) H1 fun σ2 H2 => H2 = H1 ∧ wipe σ2 vs = wipe σ vs ∧ EvP te σ2 H1 (S (u i))) : EvF (tLc wi g tYes te vs) σ H S (is.map u) := by
  have h := evf_lc (te := te) (t := tYes) (f := fun _ => true) (u := u) hi hs hz gm (fun i x H1 e hm hR => gm _ _ _ _ _ (fun σ2 H2 ⟨a, b, c⟩ => ⟨a, b, (fun H1 _ Q q => q H1 (Ex.refl H1)), fun _ => c⟩) (ht i x H1 e hm hR))
  rw [filter_yes] at h
  exact h
end
/-- a word of length k by place -/
theorem wV_len (m : List Nat) : (wV m).length = m.length := by unfold wV; rw [List.length_map]
theorem wV_get (m : List Nat) (i : Nat) : (wV m)[i]? = (m[i]?).map fun k : Nat => V.int (k : Int) := by unfold wV; rw [List.getElem?_map]
theorem wV_ints (m : List Nat) : wV m = (m.map fun k : Nat => (k : Int)).map V.int := by unfold wV; rw [List.map_map]; rfl
theorem sum_ints (m : List Nat) : (m.map fun k : Nat => (k : Int)).sum = ((m.sum : Nat) : Int) := by
  induction m with
  | nil => rfl
  | cons a m ih => rw [List.map_cons, List.sum_cons, ih, List.sum_cons]; omega
theorem rv_not {b : Bool} : (!b) = true ↔ b = false := by cases b <;> simp
end PLW
end
section
set_option Elab.async false
set_option linter.all false
set_option maxRecDepth 100000
set_option maxHeartbeats 2000000
namespace PLW
open PySem PySem.Spec PyProof.Rows L2 Evl RZ
open PL PySem.W
/-! words as data -/
def encI (k : Nat) : PyData := .int (k : Int)
def encW (m : List Nat) : PyData := .tuple (m.map encI)
theorem eqvA_I : ∀ x y : List Nat, PyData.eqvAll (x.map encI) (y.map encI) = decide (x = y)
  | [], [] => rfl
  | [], _ :: _ => by simp [PyData.eqvAll]
  | _ :: _, [] => by simp [PyData.eqvAll]
  | a :: x, b :: y => by
    rw [List.map_cons, List.map_cons, PyData.eqvAll, eqvA_I x y]
    show (((a : Int) == (b : Int)) && decide (x = y)) = decide (a :: x = b :: y)
    by_cases h : a = b
    · subst h; simp
    · rw [show ((a : Int) == (b : Int)) = false by simp; omega]
      simp [h]
theorem eqv_W (x y : List Nat) : PyData.eqv (encW x) (encW y) = decide (x = y) := by
  rw [show PyData.eqv (encW x) (encW y) = PyData.eqvAll (x.map encI) (y.map encI) by unfold encW; rw [PyData.eqv]]
  exact eqvA_I x y
theorem eqvA_W : ∀ x y : List (List Nat), PyData.eqvAll (x.map encW) (y.map encW) = decide (x = y)
  | [], [] => rfl
  | [], _ :: _ => by simp [PyData.eqvAll]
  | _ :: _, [] => by simp [PyData.eqvAll]
  | a :: x, b :: y => by
    rw [List.map_cons, List.map_cons, PyData.eqvAll, eqvA_W x y, eqv_W]
    by_cases h : a = b
    · subst h; simp
    · simp [h]
theorem layA_I : ∀ x : List Nat, PyData.canLayAll0 (x.map encI) = true
  | [] => rfl
  | a :: x => by rw [List.map_cons, PyData.canLayAll0, layA_I x]; rfl
theorem layA_W : ∀ x : List (List Nat), PyData.canLayAll0 (x.map encW) = true
  | [] => rfl
  | a :: x => by
    rw [List.map_cons, PyData.canLayAll0, layA_W x]
    show (PyData.canLayAll0 (a.map encI) && true) = true
    rw [layA_I]; rfl
theorem depA_I : ∀ x : List Nat, PyData.depthAll (x.map encI) = 0
  | [] => rfl
  | a :: x => by rw [List.map_cons, PyData.depthAll, depA_I x]; rfl
theorem dep_W (m : List Nat) : PyData.depth (encW m) = 1 := by
  unfold encW
  rw [PyData.depth, depA_I]
theorem depA_W : ∀ x : List (List Nat), PyData.depthAll (x.map encW) ≤ 1
  | [] => Nat.zero_le _
  | a :: x => by
    rw [List.map_cons, PyData.depthAll, dep_W]
    have := depA_W x
    omega
theorem sh_W (m : List Nat) : SeqAt.shaped (encW m) = true := by
  unfold SeqAt.shaped
  rw [dep_W]
  show (PyData.canLayAll0 (m.map encI) && decide (1 ≤ 64)) = true
  rw [layA_I]; rfl
theorem sh_L (x : List (List Nat)) : SeqAt.shaped (.list (x.map encW)) = true := by
  unfold SeqAt.shaped
  have := depA_W x
  rw [show PyData.depth (.list (x.map encW)) = PyData.depthAll (x.map encW) + 1 by rw [PyData.depth], decide_eq_true (show PyData.depthAll (x.map encW) + 1 ≤ 64 by omega)]
  show (PyData.canLayAll0 (x.map encW) && true) = true
  rw [layA_W]; rfl
theorem sh_T (x : List (List Nat)) : SeqAt.shaped (.tuple (x.map encW)) = true := by
  unfold SeqAt.shaped
  have := depA_W x
  rw [show PyData.depth (.tuple (x.map encW)) = PyData.depthAll (x.map encW) + 1 by rw [PyData.depth], decide_eq_true (show PyData.depthAll (x.map encW) + 1 ≤ 64 by omega)]
  show (PyData.canLayAll0 (x.map encW) && true) = true
  rw [layA_W]; rfl
theorem sh_I (x : List Nat) : SeqAt.shaped (.list (x.map encI)) = true := by
  unfold SeqAt.shaped
  rw [show PyData.depth (.list (x.map encI)) = PyData.depthAll (x.map encI) + 1 by rw [PyData.depth], depA_I]
  show (PyData.canLayAll0 (x.map encI) && true) = true
  rw [layA_I]; rfl
section
variable {K : PySem.W.Frag} {σ : L2.St} {H H' : Hp} {ta tb te tl : TE} {v x y z : V} {D : Ends} {tz tu : TS} {g : TG} {ι κ : Type} {R : ι → Rl} {S : κ → Rl} {is : List ι} {i : Nat}
theorem dpA_I : ∀ x : List Nat, DpAll K H (wV x) (x.map encI)
  | [] => .nil
  | a :: x => .cons (.int (a : Int)) (dpA_I x)
theorem dp_W {v : V} {m : List Nat} (h : rW K m H v) : Dp K H v (encW m) := by
  obtain ⟨a, rfl, h1⟩ := h
  exact .tup h1 (dpA_I m)
theorem dpA_W : ∀ {vs : List V} {ms : List (List Nat)}, Pd (rW K) H vs ms → DpAll K H vs (ms.map encW)
  | [], [], _ => .nil
  | [], _ :: _, h => by have := h.1; simp at this
  | _ :: _, [], h => by have := h.1; simp at this
  | x :: xs, p :: ps, h => .cons (dp_W h.uncons.1) (dpA_W h.uncons.2)
theorem dp_L {v : V} {ms : List (List Nat)} (h : rL K (rW K) ms H v) : Dp K H v (.list (ms.map encW)) := by
  obtain ⟨a, vs, rfl, h1, pd⟩ := h
  exact .lst h1 (dpA_W pd)
theorem dp_T {v : V} {ms : List (List Nat)} (h : rTs K (rW K) ms H v) : Dp K H v (.tuple (ms.map encW)) := by
  obtain ⟨a, vs, rfl, h1, pd⟩ := h
  exact .tup h1 (dpA_W pd)
theorem wV_Pd (m : List Nat) : Pd rNat H (wV m) m := ⟨wV_len m, fun j v i h1 h2 => by
  rw [wV_get, h2] at h1
  exact (Option.some.inj h1).symm⟩
theorem Pd_wV : ∀ {vs : List V} {m : List Nat}, Pd rNat H vs m → vs = wV m := fun {vs m} h => pd_val (f := fun k : Nat => V.int (k : Int)) h
/-- equal data, told -/
def EqP (te : TE) (σ : L2.St) (H : Hp) (K : PySem.W.Frag) (d : PyData) : Prop := EvP te σ H fun H v => Dp K H v d
theorem dp_ex {v : V} {d : PyData} : ∀ {H H' : Hp}, Ex H H' → Dp K H v d → Dp K H' v d := fun {H H'} e h => by
  refine Dp.rec (motive_1 := fun v d _ => Dp K H' v d) (motive_2 := fun vs ds _ => DpAll K H' vs ds) .non .bl .int .str (fun h _ ih => .lst (ex_l e h) ih) (fun h _ ih => .tup (ex_t e h) ih) .nil (fun _ _ a b => .cons a b) h
theorem ev_eqD {d e : PyData} (ha : EvP ta σ H fun H v => Dp K H v d) (hb : EvP tb σ H fun H v => Dp K H v e) (h1 : SeqAt.shaped d = true) (h2 : SeqAt.shaped e = true) : Ev (tOp (rEqD K) ta tb) σ H (.bl (PyData.eqv d e)) := fun H1 e1 Q q =>
  ha H1 e1 _ fun a H2 e2 hA => hb H2 (e1.trans e2) _ fun b H3 e3 hB => ⟨d, e, dp_ex e3 hA, hB, h1, h2, q H3 (e2.trans e3)⟩
theorem ev_neD {d e : PyData} (ha : EvP ta σ H fun H v => Dp K H v d) (hb : EvP tb σ H fun H v => Dp K H v e) (h1 : SeqAt.shaped d = true) (h2 : SeqAt.shaped e = true) : Ev (tOp (rNeD K) ta tb) σ H (.bl (!PyData.eqv d e)) := fun H1 e1 Q q =>
  ha H1 e1 _ fun a H2 e2 hA => hb H2 (e1.trans e2) _ fun b H3 e3 hB => ⟨d, e, dp_ex e3 hA, hB, h1, h2, q H3 (e2.trans e3)⟩
theorem EvP.imp {R R' : Rl} (h : EvP te σ H R) (k : ∀ H1 v, R H1 v → R' H1 v) : EvP te σ H R' := fun H1 e Q q => h H1 e Q fun v H2 e2 r => q v H2 e2 (k H2 v r)
/-- ones = [] -/
theorem dpA_1 : ∀ {vs : List V} {is : List ι}, Pd (fun _ => rNat 1) H vs is → DpAll K H vs ((is.map fun _ => 1).map encI)
  | [], [], _ => .nil
  | [], _ :: _, h => by have := h.1; simp at this
  | _ :: _, [], h => by have := h.1; simp at this
  | x :: xs, p :: ps, h => by
    obtain ⟨h1, h2⟩ := h.uncons
    have e : x = V.int 1 := h1
    subst e
    exact .cons (.int 1) (dpA_1 h2)
theorem eqv_nil (is : List ι) : PyData.eqv (.list ((is.map fun _ => 1).map encI)) (.list (([] : List Nat).map encI)) = is.isEmpty := by
  rw [PyData.eqv, eqvA_I]
  cases is <;> simp
theorem evp_nil : EvP (tLst tNil) σ H fun H v => Dp K H v (.list (([] : List Nat).map encI)) := fun H1 e Q q =>
  el_lst (σ := σ) (H := H) ea_nil (Nat.zero_le _) H1 e Q fun p H2 _ e2 h2 => q _ H2 e2 (.lst (sq_of h2) .nil)
theorem ev_isNil (h : EvP te σ H (rL K (fun _ : ι => rNat 1) is)) : Ev (tOp (rEqD K) te (tLst tNil)) σ H (.bl is.isEmpty) := by
  rw [← eqv_nil is]
  exact ev_eqD (h.imp fun H1 v ⟨a, vs, e, h1, pd⟩ => by rw [e]; exact .lst h1 (dpA_1 pd)) evp_nil (sh_I _) (sh_I _)
theorem ev_isNil' (h : EvP te σ H (rL K (fun _ : ι => rNat 1) is)) : Ev (tOp (rNeD K) te (tLst tNil)) σ H (.bl (!is.isEmpty)) := by
  rw [← eqv_nil is]
  exact ev_neD (h.imp fun H1 v ⟨a, vs, e, h1, pd⟩ => by rw [e]; exact .lst h1 (dpA_1 pd)) evp_nil (sh_I _) (sh_I _)
end
/-! words zipped -/
theorem zip_fst : ∀ {x y : List Nat}, x.length = y.length → wV x = (x.zip y).map fun p => V.int (p.1 : Int)
  | [], [], _ => rfl
  | a :: x, b :: y, h => by
    rw [List.zip_cons_cons, List.map_cons, ← zip_fst (x := x) (y := y) (by simpa using h)]
    rfl
theorem zip_snd : ∀ {x y : List Nat}, x.length = y.length → wV y = (x.zip y).map fun p => V.int (p.2 : Int)
  | [], [], _ => rfl
  | a :: x, b :: y, h => by
    rw [List.zip_cons_cons, List.map_cons, ← zip_snd (x := x) (y := y) (by simpa using h)]
    rfl
theorem dv_zip : ∀ {x y : List Nat}, x.length = y.length → ((x.zip y).map fun p => decide (p.1 ≤ p.2)).all id = dv x y
  | [], [], _ => rfl
  | a :: x, b :: y, h => by
    rw [List.zip_cons_cons, List.map_cons, List.all_cons, dv_zip (x := x) (y := y) (by simpa using h)]
    rfl
theorem dv_zip' : ∀ {x y : List Nat}, x.length = y.length → ((x.zip y).filter fun p => decide (p.2 < p.1)).isEmpty = dv x y
  | [], [], _ => rfl
  | a :: x, b :: y, h => by
    rw [List.zip_cons_cons, List.filter_cons]
    have ih := dv_zip' (x := x) (y := y) (by simpa using h)
    by_cases c : b < a
    · rw [if_pos (decide_eq_true c)]
      show false = (decide (a ≤ b) && dv x y)
      rw [decide_eq_false (by omega)]
      rfl
    · rw [if_neg (by simpa using c), ih]
      show dv x y = (decide (a ≤ b) && dv x y)
      rw [decide_eq_true (by omega)]
      rfl
theorem any_filter {α : Type} (l : List α) (f : α → Bool) : (!(l.filter f).isEmpty) = l.any f := by
  induction l with
  | nil => rfl
  | cons a l ih =>
    rw [List.filter_cons, List.any_cons, ← ih]
    cases f a <;> simp
end PLW
end
section
set_option Elab.async false
set_option linter.all false
set_option maxRecDepth 100000
set_option maxHeartbeats 2000000
namespace PLW
open PySem PySem.Spec PyProof.Rows L2 Evl RZ
open PL PySem.W
/-! words in their order; sorted(list of words) -/
def wI (m : List Nat) : List Int := m.map fun k : Nat => (k : Int)
def leW (x y : List Nat) : Prop := wI x ≤ wI y
theorem wI_inj : ∀ {x y : List Nat}, wI x = wI y → x = y
  | [], [], _ => rfl
  | [], _ :: _, h => by simp [wI] at h
  | _ :: _, [], h => by simp [wI] at h
  | a :: x, b :: y, h => by
    have h1 : ((a : Int) :: wI x) = (b : Int) :: wI y := h
    obtain ⟨h2, h3⟩ := List.cons.inj h1
    rw [wI_inj h3, Int.ofNat.inj h2]
theorem leW_anti {x y : List Nat} (h1 : leW x y) (h2 : leW y x) : x = y := wI_inj (List.le_antisymm h1 h2)
/-- ascending lists with the same members, each once, are the same -/
theorem same_asc {α : Type} {le : α → α → Prop} (anti : ∀ {x y}, le x y → le y x → x = y) : ∀ {a b : List α}, a.Pairwise le → b.Pairwise le → a.Nodup → b.Nodup → (∀ x, x ∈ a ↔ x ∈ b) → a = b
  | [], [], _, _, _, _, _ => rfl
  | [], y :: b, _, _, _, _, h => by have := (h y).2 (by simp); simp at this
  | x :: a, [], _, _, _, _, h => by have := (h x).1 (by simp); simp at this
  | x :: a, y :: b, pa, pb, na, nb, h => by
    rw [List.pairwise_cons] at pa pb
    rw [List.nodup_cons] at na nb
    have hxy : x = y := by
      rcases List.mem_cons.mp ((h x).1 (by simp)) with e | e
      · exact e
      · rcases List.mem_cons.mp ((h y).2 (by simp)) with f | f
        · exact f.symm
        · exact anti (pa.1 y f) (pb.1 x e)
    subst hxy
    rw [same_asc anti pa.2 pb.2 na.2 nb.2 fun z => ?_]
    constructor
    · intro hz
      rcases List.mem_cons.mp ((h z).1 (by simp [hz])) with e | e
      · subst e; exact absurd hz na.1
      · exact e
    · intro hz
      rcases List.mem_cons.mp ((h z).2 (by simp [hz])) with e | e
      · subst e; exact absurd hz nb.1
      · exact e
theorem encW_ints (m : List Nat) : encW m = .tuple ((wI m).map .int) := by
  unfold encW wI
  rw [List.map_map]
  rfl
theorem dataLe_W {β : Type} (k : β → List Nat) : dataLe false (fun b => encW (k b)) = fun p q => decide (wI (k p) ≤ wI (k q)) := by
  funext p q
  show (!dataLt (encW (k q)) (encW (k p))) = _
  rw [encW_ints, encW_ints, dataLt_tuple]
  show (!rowLt ((wI (k q)).map .int) ((wI (k p)).map .int)) = _
  rw [dataLt_ints]
  by_cases h : wI (k q) < wI (k p)
  · rw [decide_eq_true h, decide_eq_false (fun r => List.not_lt.mpr r h)]; rfl
  · rw [decide_eq_false h, decide_eq_true (List.not_lt.mp h)]; rfl
def rSortW (K : PySem.W.Frag) : List V → Hp → VK → Prop := fun vs H Q => ∃ (a : Addr) (xs : List V) (ms : List (List Nat)), vs = [V.ref a] ∧ SqL K H a xs ∧ Pd (rW K) H xs ms ∧ (∀ m ∈ ms, m ≠ []) ∧
  ∀ (ys : List V) (ms' : List (List Nat)) (p : Addr), ms'.Perm ms → ms'.Pairwise leW → Pd (rW K) H ys ms' → H p = none → Q (.ref p) (upd H p (.lst ys))
/-- vs, their words and their values, one by one -/
theorem each_of {K : PySem.W.Frag} {H : Hp} : ∀ {xs : List V} {ms : List (List Nat)} {us : List Value}, Pd (rW K) H xs ms → Vals xs us → EachIs (fun u (b : V × List Nat) => RelV b.1 u ∧ rW K b.2 H b.1) us (xs.zip ms) ∧ (xs.zip ms).map Prod.snd = ms
  | [], [], _, _, .nil => ⟨.nil, rfl⟩
  | [], _ :: _, _, h, _ => by have := h.1; simp at this
  | _ :: _, [], _, h, _ => by have := h.1; simp at this
  | x :: xs, m :: ms, _, h, .cons r t => by
    obtain ⟨h1, h2⟩ := each_of h.uncons.2 t
    exact ⟨.cons ⟨r, h.uncons.1⟩ h1, by rw [List.zip_cons_cons, List.map_cons, h2]⟩
theorem each_back {K : PySem.W.Frag} {H : Hp} : ∀ {us : List Value} {bs : List (V × List Nat)}, EachIs (fun u (b : V × List Nat) => RelV b.1 u ∧ rW K b.2 H b.1) us bs → Vals (bs.map Prod.fst) us ∧ Pd (rW K) H (bs.map Prod.fst) (bs.map Prod.snd)
  | _, _, .nil => ⟨.nil, Pd.nil⟩
  | _, _, .cons (a := u) (b := b) (as := us) (bs := bs) ⟨h, w⟩ t => by
    obtain ⟨h1, h2⟩ := each_back t
    refine ⟨.cons h h1, ?_⟩
    have := Pd.append (Pd.snoc (R := rW K) (H := H) Pd.nil w) h2
    exact this
theorem each_imp {α β : Type} {R S : α → β → Prop} (k : ∀ a b, R a b → S a b) : ∀ {as : List α} {bs : List β}, EachIs R as bs → EachIs S as bs
  | _, _, .nil => .nil
  | _, _, .cons h t => .cons (k _ _ h) (each_imp k t)
theorem alike_I : ∀ x y : List Nat, alikeAll (x.map encI) (y.map encI) = true
  | [], y => by rw [List.map_nil, alikeAll]
  | a :: x, [] => by rw [List.map_cons, List.map_nil, alikeAll]
  | a :: x, b :: y => by
    rw [List.map_cons, List.map_cons, alikeAll, alike_I x y]
    unfold encI
    rw [alike]
    rfl
section
variable {X : Cx}
theorem cr_sortW (hu : X.A.units + 64 < cLine) : CallR X (.builtin "sorted") (rSortW X.K) := by
  intro pins s σ H vs us Q I r h
  obtain ⟨a, xs, ms, rfl, hs, pd, hne, q⟩ := h
  obtain ⟨its, rv, hl, hz⟩ := I.list hs
  rw [Vals.ref1 r]
  obtain ⟨e1, e2⟩ := each_of pd rv
  have hlen : (xs.zip ms).length = xs.length := by rw [List.length_zip, pd.1, Nat.min_self]
  have hmem : ∀ b ∈ xs.zip ms, b.2 ∈ ms := fun b hb => (List.of_mem_zip hb).2
  refine sorted_data (enc := fun b : V × List Nat => encW b.2) hl.isList e1 (each_imp (fun u b ⟨h1, h2⟩ => Dp.reads I _ _ _ (dp_W h2) h1) e1) ?_ ?_ (by rw [hlen]; exact hz) (fun b _ => by rw [dep_W]; omega) fun out ho he => ?_
  · intro d hd d' hd'
    obtain ⟨b, hb, rfl⟩ := List.mem_map.mp hd
    obtain ⟨b', hb', rfl⟩ := List.mem_map.mp hd'
    show alike (encW b.2) (encW b'.2) = true
    unfold encW
    rw [alike]
    exact alike_I _ _
  · exact .inl fun d hd => by
      obtain ⟨b, hb, rfl⟩ := List.mem_map.mp hd
      have := hne _ (hmem b hb)
      obtain ⟨k, m, hkm⟩ : ∃ k m, b.2 = k :: m := by
        cases h2 : b.2 with
        | nil => exact absurd h2 this
        | cons k m => exact ⟨k, m, rfl⟩
      exact ⟨encI k, m.map encI, by show encW b.2 = _; rw [hkm]; rfl⟩
  · have hs : (xs.zip ms).mergeSort (dataLe false fun b : V × List Nat => encW b.2) = (xs.zip ms).mergeSort (fun p q => decide (wI p.2 ≤ wI q.2)) := by rw [dataLe_W]
    rw [hs] at he
    obtain ⟨b1, b2⟩ := each_back he
    generalize hbs : (xs.zip ms).mergeSort (fun p q => decide (wI p.2 ≤ wI q.2)) = bs at *
    obtain ⟨ep, he'⟩ := PyProof.Rows.sortedAll_at s.heap its out.toArray
    have hp : bs.Perm (xs.zip ms) := by rw [← hbs]; exact List.mergeSort_perm _ _
    have hpm : bs.Pairwise fun p q => decide (wI p.2 ≤ wI q.2) = true := by
      rw [← hbs]
      refine List.pairwise_mergeSort (fun p q r h1 h2 => ?_) (fun p q => ?_) _
      · exact decide_eq_true (List.le_trans (of_decide_eq_true h1) (of_decide_eq_true h2))
      · rcases List.le_total (wI p.2) (wI q.2) with c | c
        · simp [c]
        · simp [c]
    have hpw : (bs.map Prod.snd).Pairwise leW := by
      rw [List.pairwise_map]
      exact hpm.imp fun {p q} h => of_decide_eq_true h
    exact ⟨.ref _, upd H (s.heap.objs.size + 1) (.lst (bs.map Prod.fst)), I.laid (t' := s.toks) (fun _ _ => PyProof.Rows.sortedAll_old) (Nat.le_succ _) ⟨by show (bs.map Prod.fst).length ≤ sizeLine; rw [List.length_map, hp.length_eq, hlen]; exact hz, out, ep, b1, he'⟩, rfl, q _ _ _ (by rw [← e2]; exact hp.map _) hpw b2 (I.hok.fresh (Nat.le_succ _))⟩
end
section
variable {K : PySem.W.Frag} {σ : L2.St} {H H' : Hp} {ta tb te tl : TE}
theorem evf_sortW {ms : List (List Nat)} (h : EvP te σ H (rL K (rW K) ms)) (hne : ∀ m ∈ ms, m ≠ []) : ∀ H1, Ex H H1 → ∀ Q : VK, (∀ ms' p vs H2, ms'.Perm ms → ms'.Pairwise leW → H1 p = none → Ex H1 H2 → H2 p = some (.lst vs) → Pd (rW K) H2 vs ms' → Q (.ref p) H2) → tCB (rSortW K) (tCons te tNil) σ H1 Q := fun H1 e Q q =>
  h H1 e _ fun v H2 e2 ⟨a, xs, ev, h1, pd⟩ => ⟨a, xs, ms, by rw [ev], h1, pd, hne, fun ys ms' p hp hpw hpd hn => q ms' p ys _ hp hpw (fresh_back e2 hn) (e2.trans (Ex.new hn)) upd_same (hpd.keep (rW_stb K) (Kp.ex (Ex.new hn)))⟩
end
end PLW
end
section
set_option Elab.async false
set_option linter.all false
set_option maxRecDepth 100000
set_option maxHeartbeats 2000000
namespace PLW
open PySem PySem.Spec PyProof.Rows L2 Evl RZ
open PL PySem.W
section
variable {K : PySem.W.Frag} {σ : L2.St} {H H' : Hp} {ta tb te tl : TE}
theorem ev_sumL {ns : List Int} (h : EvP te σ H (rL K rInt ns)) : Ev (tCB (rSum K) (tCons te tNil)) σ H (.int ns.sum) := ev_cbL h fun v H1 e ⟨a, vs, ev, h1, pd⟩ Q q => by
  rw [ev]
  exact ⟨a, ns, rfl, by rw [← pd_val (f := V.int) pd]; exact h1, q⟩
theorem ev_allL {bs : List Bool} (h : EvP te σ H (rL K rBl bs)) : Ev (tCB (rAll K) (tCons te tNil)) σ H (.bl (bs.all id)) := ev_cbL h fun v H1 e ⟨a, vs, ev, h1, pd⟩ Q q => by
  rw [ev]
  exact ⟨a, bs, rfl, by rw [← pd_val (f := V.bl) pd]; exact h1, q⟩
theorem ev_anyL {bs : List Bool} (h : EvP te σ H (rL K rBl bs)) : Ev (tCB (rAny K) (tCons te tNil)) σ H (.bl (bs.any id)) := ev_cbL h fun v H1 e ⟨a, vs, ev, h1, pd⟩ Q q => by
  rw [ev]
  exact ⟨a, bs, rfl, by rw [← pd_val (f := V.bl) pd]; exact h1, q⟩
theorem evp_lc1 {ι : Type} {R : ι → Rl} {is : List ι} {wi : TI} {g : TG} {t : TT} {vs : List Nat} {f : ι → Bool} (hi : EvI wi σ H R is) (hz : is.length ≤ 40000) (gm : ∀ v σ H Q Q', (∀ σ' H', Q σ' H' → Q' σ' H') → g v σ H Q → g v σ H Q')
    (ht : ∀ i x H1, Ex H H1 → i ∈ is → R i H1 x → g x (wipe σ vs) H1 fun σ2 H2 => H2 = H1 ∧ wipe σ2 vs = wipe σ vs ∧ EvT t σ2 H1 (f i) ∧ Ev te σ2 H1 (.int 1)) : EvP (tLc wi g t te vs) σ H (rL K (fun _ : ι => rNat 1) (is.filter f)) := by
  have h := evp_lc (K := K) (te := te) (t := t) (f := f) (u := fun i : ι => i) (S := fun _ : ι => rNat 1) hi (fun _ => rNat_stb 1) hz gm (fun i x H1 e hm hR => gm _ _ _ _ _ (fun σ2 H2 ⟨a, b, c, d⟩ => ⟨a, b, c, fun _ => EvP.of d⟩) (ht i x H1 e hm hR))
  rw [List.map_id'] at h
  exact h
theorem natsum {α : Type} (l : List α) (f : α → Nat) : (l.map fun p => ((f p : Nat) : Int)).sum = (((l.map f).sum : Nat) : Int) := by
  induction l with
  | nil => rfl
  | cons a l ih => rw [List.map_cons, List.sum_cons, ih, List.map_cons, List.sum_cons]; omega
end
section
variable {X : Cx}
theorem pg_pair {K : PySem.W.Frag} {i j : Nat} {x y : Str} {p q pos : Pos} {k : Nat} (hK : X.K = K) (hc : X.calm = true) (hN : X.N.Nodup) (hi : X.N[i]? = some x) (hj : X.N[j]? = some y) (lx : Loc X.env.scope x) (ly : Loc X.env.scope y)
    (fx : X.fn x = true ∨ X.env.scope.names.lookup x = some .local) (fy : X.fn y = true ∨ X.env.scope.names.lookup y = some .local) :
    PG X (.Tuple [.Name x p, .Name y q] k pos) (gTup K 2 (gCons (gName i) (gCons (gName j) gNil))) := by
  subst hK
  exact pg_tup hc (pgs_cons (pg_name hN hi lx fx) (pgs_cons (pg_name hN hj ly fy) pgs_nil))
theorem pg_nm {i : Nat} {x : Str} {p : Pos} (hN : X.N.Nodup) (hi : X.N[i]? = some x) (lx : Loc X.env.scope x) (fx : X.fn x = true ∨ X.env.scope.names.lookup x = some .local) : PG X (.Name x p) (gName i) := pg_name hN hi lx fx
end
section
variable {P : Program} {w : World} {K : PySem.W.Frag} {mg : Str → Option Value} {base : Heap}
def sp_bound_of : Sp := spR fun vs _ R => ∃ h d : Nat, vs = [.int (h : Int), .int (d : Int)] ∧ h ≤ 1000000 ∧ 1 ≤ d ∧ d ≤ 8000 ∧ R = rInt ((bnd d h : Nat) : Int)
abbrev N_bound_of : List Str := ["number", "degree", "top", "bottom"]
theorem sc_bound_of : FnScope N_bound_of ["number", "degree"] (defScope s_bound_of) := ⟨rfl, rfl, rfl, by decide +kernel, rfl, by decide +kernel, by decide +kernel⟩
theorem has_bound_of (T : Tx K mg) : Has P w K mg base "bound_of" ["number", "degree"] 4 sp_bound_of := by
  have h_choices_of : Has P w K mg base _ _ 1 sp_choices_of := has_choices_of T
  have h_shares_of : Has P w K mg base _ _ 3 (sp_shares_of K) := has_shares_of T
  obtain ⟨fd, F⟩ := T.fn_bound_of
  refine ⟨⟨fd, F.ok sc_bound_of (fun vs H Q E h => ?_) (fun cdv A outer s H vs Q E hr h => ?_), F.bindsN fun _ _ _ _ _ _ us hl => match us, hl with | [_, _], _ => rfl⟩, F.kp, T.g_bound_of⟩
  · obtain ⟨R, ⟨a, b, rfl, _⟩, _⟩ := h; rfl
  · obtain ⟨R, ⟨h, d, rfl, h2, d1, d2, rfl⟩, k⟩ := h
    refine ⟨_, PSs.nox (pss_one (ps_ret (pe_callB (cr_sum rfl) (by rfl) T.sum_ (by decide +kernel) (pa_cons (pe_lc (own := [("top", 2), ("bottom", 3)]) rfl sc_bound_of.nd (pi_list (pe_h h_shares_of (hr.mono (by decide)) pass0 (pa_cons (pv 0) (pa_cons (pv 1) pa_nil)))) (blkOk_by (own := [("top", 2), ("bottom", 3)]) (N := N_bound_of) (sc := defScope s_bound_of) (by decide +kernel)) (by intro _ _ _ _ _; refine pg_pair (K := K) (i := 2) (j := 3) ?_ ?_ ?_ ?_ ?_ ?_ ?_ ?_ ?_; exact rfl; exact rfl; exact sc_bound_of.nd; exact rfl; exact rfl; all_goals first | exact .inl rfl | exact .inr rfl) (fun _ _ _ _ _ => pts_nil) (by intro _ _ _ _ _; exact (pe_h h_choices_of (hr.mono (by decide)) pass0 (pa_cons (pe_op op_add (pv 2) pe_int) (pa_cons (pe_op op_add (pv 3) pe_int) pa_nil))))) pa_nil)))), ?_⟩
    refine s_ret (v := .int ((bnd d h : Nat) : Int)) (ev_is (ev_sumL (evp_lc0 (u := fun p : Nat × Nat => ((ch (p.1 + 1) (p.2 + 1) : Nat) : Int)) (ei_list (rP2_stb K) (evp_call (ea_cons (ev_var rfl) (ea_cons (ev_var rfl) ea_nil)) (SpP.of fun H1 _ => ⟨h, d, rfl, h2, d1, by omega, rfl⟩))) rInt_stb (by have := shl_len d h; omega) gm_tup2 ?_)) ?_) (fun H1 e => k _ H1 e rfl)
    · rintro p x H1 e hm ⟨a, rfl, hp⟩
      have := shl_mem hm
      refine g_tup2 hp ⟨rfl, rfl, evp_call (ea_cons (ev_bin (ev_var rfl) ev_c) (ea_cons (ev_bin (ev_var rfl) ev_c) ea_nil)) (SpP.of fun H2 _ => ⟨p.1 + 1, p.2 + 1, rfl, by omega, by omega, rfl⟩)⟩
    · rw [natsum, shl_sum]
def sp_law_shares (K : PySem.W.Frag) : Sp := spR fun vs _ R => ∃ h d : Nat, vs = [.int (h : Int), .int (d : Int)] ∧ h ≤ 1000000 ∧ 1 ≤ d ∧ d ≤ 9000 ∧ R = rL K (rP2 K) (shl d h)
abbrev N_law_shares : List Str := ["_law_number", "_law_degree", "_law_found", "_law_left_here", "_law_i", "_law_k"]
theorem sc_law_shares : FnScope N_law_shares ["_law_number", "_law_degree"] (defScope s_law_shares) := ⟨rfl, rfl, rfl, by decide +kernel, rfl, by decide +kernel, by decide +kernel⟩
theorem has_law_shares (T : Tx K mg) : Has P w K mg base "_law_shares" ["_law_number", "_law_degree"] 3 (sp_law_shares K) := by
  have h_law_binomial : Has P w K mg base _ _ 1 sp_law_binomial := has_law_binomial T
  obtain ⟨fd, F⟩ := T.fn_law_shares
  refine ⟨⟨fd, F.ok sc_law_shares (fun vs H Q E h => ?_) (fun cdv A outer s H vs Q E hr h => ?_), F.bindsN fun _ _ _ _ _ _ us hl => match us, hl with | [_, _], _ => rfl⟩, F.kp, T.g_law_shares⟩
  · obtain ⟨R, ⟨a, b, rfl, _⟩, _⟩ := h; rfl
  · obtain ⟨R, ⟨h, d, rfl, h2, d1, d2, rfl⟩, k⟩ := h
    refine ⟨_, PSs.nox (pss_cons (ps_par (i := 2) (j := 3) (by rfl) sc_law_shares.nd rfl rfl (by decide) rfl rfl (pa_cons (pe_lst pa_nil) (pa_cons (pv 0) pa_nil)) (by rfl)) (pss_cons (ps_for PassesOwn.never rfl (pi_range3 (by rfl) T.range_ (pa_cons (pv 1) (pa_cons pe_int (pa_cons (pe_un un_neg pe_int) pa_nil)))) (pg_name (i := 4) sc_law_shares.nd rfl (Or.inl rfl)) (pss_one (ps_if (pt_cmpR op_gt (pv 3) pe_int (nomark _)) (pss_cons (ps_set (i := 5) sc_law_shares.nd rfl (Or.inl rfl) (pe_ifExp (pt_cmpR op_gt (pv 4) pe_int (nomark _)) (pv 4) (pv 3))) (pss_cons (ps_while PassesOwn.never (pt_cmpR op_le (pe_h h_law_binomial (hr.mono (by decide)) pass0 (pa_cons (pe_op op_add (pv 5) pe_int) (pa_cons (pv 4) pa_nil))) (pv 3) (nomark _)) (pss_one (ps_set (i := 5) sc_law_shares.nd rfl (Or.inl rfl) (pe_op op_add (pv 5) pe_int)))) (pss_cons (ps_expr (pe_bm PySem.F.plainAttrs_list PySem.F.slot_list_append PySem.F.type_list_append mt_append (pv 2) (pa_cons (pe_tup (pa_cons (pv 5) (pa_cons (pv 4) pa_nil))) pa_nil))) (pss_one (ps_set (i := 3) sc_law_shares.nd rfl (Or.inl rfl) (pe_op op_sub (pv 3) (pe_h h_law_binomial (hr.mono (by decide)) pass0 (pa_cons (pv 5) (pa_cons (pv 4) pa_nil))))))))) pss_nil))) (pss_one (ps_ret (pv 2))))), ?_⟩
    refine q_parL (b := .int (h : Int)) (el_lst ea_nil (Nat.zero_le _)) (ev_var rfl) (fun l H1 hl e1 hl1 => ?_)
    refine s_forR3 (D := _) (lo := (d : Int)) (hi := 0) (ea_cons (ev_var rfl) (ea_cons ev_c (ea_cons (ev_un ev_c ru_neg) ea_nil))) (by omega) (fun j σ' H' => ∃ (h' : Nat) (vs : List V) (is : List (Nat × Nat)) (x y : Option V), σ' = [some (.int (h : Int)), some (.int (d : Int)), some (.ref l), some (.int (h' : Int)), x, y] ∧ Ex H H' ∧ H' l = some (.lst vs) ∧ Pd (rP2 K) H' vs is ∧ is ++ shl (d - j) h' = shl d h ∧ (j = d → h' = 0) ∧ h' ≤ h ∧ vs.length ≤ j)
      (fun H2 e2 => ⟨h, [], [], none, none, rfl, e1.trans e2, e2 _ _ hl1, Pd.nil, rfl, fun z => by omega, Nat.le_refl _, Nat.zero_le _⟩) ?_ ?_
    · rintro j σ' H' hj ⟨h', vs, is, x, y, rfl, e, hl', pd, hs, h0, hh, hv⟩
      obtain ⟨i, hi⟩ : ∃ i, d - j = i + 1 := ⟨d - j - 1, by omega⟩
      have hji : (d : Int) - (j : Int) = ((i + 1 : Nat) : Int) := by omega
      rw [hji]
      rw [hi] at hs
      refine s_when (et_test (ev_cmp (ev_var rfl) ev_c)) (fun z H3 e3 => ?_) (fun z H3 e3 => ?_)
      · have hz : 0 < h' := by have := of_decide_eq_true z; omega
        refine q_asg (v := .int ((if i = 0 then h' else i + 1 : Nat) : Int)) (ev_if (et_test (ev_cmp (ev_var rfl) ev_c)) (fun c => ?_) (fun c => ?_)) (fun H4 e4 => ?_)
        · rw [if_neg (by have := of_decide_eq_true c; omega)]
          exact ev_var rfl
        · rw [if_pos (by have := of_decide_eq_false c; omega)]
          exact ev_var rfl
        refine q_while (fun m σ'' H'' => ∃ t : Nat, σ'' = [some (.int (h : Int)), some (.int (d : Int)), some (.ref l), some (.int (h' : Int)), some (.int ((i + 1 : Nat) : Int)), some (.int (t : Int))] ∧ Ex H3 H'' ∧ ch t (i + 1) ≤ h' ∧ i + 1 ≤ t ∧ m + t = 2 * (h' + i + 1)) (2 * (h' + i + 1) - (if i = 0 then h' else i + 1)) ⟨_, rfl, e4, ?_, ?_, ?_⟩ ?_
        · by_cases c : i = 0
          · subst c; rw [if_pos rfl, ch_one]; exact Nat.le_refl _
          · rw [if_neg c, ch_self]; exact hz
        · by_cases c : i = 0
          · rw [if_pos c]; omega
          · rw [if_neg c]; exact Nat.le_refl _
        · by_cases c : i = 0
          · rw [if_pos c]; omega
          · rw [if_neg c]; omega
        rintro m σ'' H'' ⟨t, rfl, e5, ht, hit, hm⟩
        have htop := ch_le_top (n := t) (k := i + 1) (by omega) hit
        refine ⟨decide (((ch (t + 1) (i + 1) : Nat) : Int) ≤ (h' : Int)), et_test (ev_cmp (evp_call (ea_cons (ev_bin (ev_var rfl) ev_c) (ea_cons (ev_var rfl) ea_nil)) (SpP.of fun H1 _ => ⟨t + 1, i + 1, rfl, by omega, by omega, rfl⟩)).ev (ev_var rfl)), fun c H6 e6 => ?_, fun c H6 e6 => ?_⟩
        · have hc : ch (t + 1) (i + 1) ≤ h' := by have := of_decide_eq_true c; omega
          have htop2 := ch_le_top (n := t + 1) (k := i + 1) (by omega) (by omega)
          refine ⟨fun σ2 H2 => σ2 = [some (.int (h : Int)), some (.int (d : Int)), some (.ref l), some (.int (h' : Int)), some (.int ((i + 1 : Nat) : Int)), some (.int ((t + 1 : Nat) : Int))] ∧ Ex H3 H2, fun σ2 H2 ⟨a1, a2⟩ => ⟨m - 1, by omega, t + 1, a1, a2, hc, by omega, by omega⟩, ?_⟩
          exact s_asg (ev_bin (ev_var rfl) ev_c) (fun H7 e7 => ⟨rfl, (e5.trans e6).trans e7⟩)
        · have hc : h' < ch (t + 1) (i + 1) := by have := of_decide_eq_false c; omega
          have hgt := gt_uniq (by omega) ht hc
          have hl6 := e6 _ _ (e5 _ _ (e3 _ _ hl'))
          refine q_appU hl6 (ev_var rfl) (eu_tup (ea_cons (ev_var rfl) (ea_cons (ev_var rfl) ea_nil)) (show 2 ≤ 100000 by decide)) (by omega) (fun p H7 hp e7 hp7 => ?_)
          have pd7 := pd_app (i := (t, i + 1)) hl6 e7 (pd.keep (rP2_stb K) (Kp.ex ((e3.trans e5).trans e6))) (rP2_stb K) ⟨p, rfl, st_of hp7⟩
          have ex7 : Ex H (upd H7 l (.lst (vs ++ [.ref p]))) := Ex.mut ((((e.trans e3).trans e5).trans e6).trans e7) hl
          refine s_asg (v := .int ((h' - ch t (i + 1) : Nat) : Int)) (ev_is (ev_bin (ev_var rfl) (evp_call (ea_cons (ev_var rfl) (ea_cons (ev_var rfl) ea_nil)) (SpP.of fun H1 _ => ⟨t, i + 1, rfl, by omega, by omega, rfl⟩)).ev) ?_) (fun H8 e8 => ⟨h' - ch t (i + 1), vs ++ [.ref p], is ++ [(t, i + 1)], _, _, rfl, ex7.trans e8, e8 _ _ upd_same, pd7.keep (rP2_stb K) (Kp.ex e8), ?_, ?_, by omega, ?_⟩)
          · rw [Int.ofNat_sub ht]
          · rw [← hs, shl_pos hz, hgt, List.append_assoc, show d - (j + 1) = i by omega]
            rfl
          · intro hd
            have : i = 0 := by omega
            subst this
            have := share_one h'
            rw [hgt] at this
            exact this
          · rw [List.length_append, List.length_singleton]; omega
      · have hz : h' = 0 := by have := of_decide_eq_false z; omega
        subst hz
        refine ⟨0, vs, is, _, _, rfl, e.trans e3, e3 _ _ hl', pd.keep (rP2_stb K) (Kp.ex e3), ?_, fun _ => rfl, hh, by omega⟩
        rw [shl_zero] at hs ⊢
        exact hs
    · rintro σ' H' ⟨h', vs, is, x, y, rfl, e, hl', pd, hs, h0, hh, hv⟩
      have hd : ((d : Int) - 0).toNat = d := by omega
      rw [hd] at hs h0
      rw [h0 rfl, shl_zero, List.append_nil] at hs
      subst hs
      exact s_ret (v := .ref l) (ev_var rfl) (fun H4 e4 => k _ H4 (e.trans e4) ⟨l, vs, rfl, sq_of (e4 _ _ hl'), pd.keep (rP2_stb K) (Kp.ex e4)⟩)
def sp_law_bound : Sp := spR fun vs _ R => ∃ h d : Nat, vs = [.int (h : Int), .int (d : Int)] ∧ h ≤ 1000000 ∧ 1 ≤ d ∧ d ≤ 8000 ∧ R = rInt ((bnd d h : Nat) : Int)
abbrev N_law_bound : List Str := ["_law_number", "_law_degree", "_law_k", "_law_i"]
theorem sc_law_bound : FnScope N_law_bound ["_law_number", "_law_degree"] (defScope s_law_bound) := ⟨rfl, rfl, rfl, by decide +kernel, rfl, by decide +kernel, by decide +kernel⟩
theorem has_law_bound (T : Tx K mg) : Has P w K mg base "_law_bound" ["_law_number", "_law_degree"] 4 sp_law_bound := by
  have h_law_binomial : Has P w K mg base _ _ 1 sp_law_binomial := has_law_binomial T
  have h_law_shares : Has P w K mg base _ _ 3 (sp_law_shares K) := has_law_shares T
  obtain ⟨fd, F⟩ := T.fn_law_bound
  refine ⟨⟨fd, F.ok sc_law_bound (fun vs H Q E h => ?_) (fun cdv A outer s H vs Q E hr h => ?_), F.bindsN fun _ _ _ _ _ _ us hl => match us, hl with | [_, _], _ => rfl⟩, F.kp, T.g_law_bound⟩
  · obtain ⟨R, ⟨a, b, rfl, _⟩, _⟩ := h; rfl
  · obtain ⟨R, ⟨h, d, rfl, h2, d1, d2, rfl⟩, k⟩ := h
    refine ⟨_, PSs.nox (pss_one (ps_ret (pe_callB (cr_sum rfl) (by rfl) T.sum_ (by decide +kernel) (pa_cons (pe_lc (own := [("_law_k", 2), ("_law_i", 3)]) rfl sc_law_bound.nd (pi_list (pe_h h_law_shares (hr.mono (by decide)) pass0 (pa_cons (pv 0) (pa_cons (pv 1) pa_nil)))) (blkOk_by (own := [("_law_k", 2), ("_law_i", 3)]) (N := N_law_bound) (sc := defScope s_law_bound) (by decide +kernel)) (by intro _ _ _ _ _; refine pg_pair (K := K) (i := 2) (j := 3) ?_ ?_ ?_ ?_ ?_ ?_ ?_ ?_ ?_; exact rfl; exact rfl; exact sc_law_bound.nd; exact rfl; exact rfl; all_goals first | exact .inl rfl | exact .inr rfl) (fun _ _ _ _ _ => pts_nil) (by intro _ _ _ _ _; exact (pe_h h_law_binomial (hr.mono (by decide)) pass0 (pa_cons (pe_op op_add (pv 2) pe_int) (pa_cons (pe_op op_add (pv 3) pe_int) pa_nil))))) pa_nil)))), ?_⟩
    refine s_ret (v := .int ((bnd d h : Nat) : Int)) (ev_is (ev_sumL (evp_lc0 (u := fun p : Nat × Nat => ((ch (p.1 + 1) (p.2 + 1) : Nat) : Int)) (ei_list (rP2_stb K) (evp_call (ea_cons (ev_var rfl) (ea_cons (ev_var rfl) ea_nil)) (SpP.of fun H1 _ => ⟨h, d, rfl, h2, d1, by omega, rfl⟩))) rInt_stb (by have := shl_len d h; omega) gm_tup2 ?_)) ?_) (fun H1 e => k _ H1 e rfl)
    · rintro p x H1 e hm ⟨a, rfl, hp⟩
      have := shl_mem hm
      refine g_tup2 hp ⟨rfl, rfl, evp_call (ea_cons (ev_bin (ev_var rfl) ev_c) (ea_cons (ev_bin (ev_var rfl) ev_c) ea_nil)) (SpP.of fun H2 _ => ⟨p.1 + 1, p.2 + 1, rfl, by omega, by omega, rfl⟩)⟩
    · rw [natsum, shl_sum]
def sp_divides (K : PySem.W.Frag) : Sp := spR fun vs H R => ∃ (x y : List Nat) (a b : Addr), vs = [.ref a, .ref b] ∧ SqT K H a (wV x) ∧ SqT K H b (wV y) ∧ x.length = y.length ∧ x.length ≤ 8 ∧ R = rBl (dv x y)
abbrev N_divides : List Str := ["one", "other", "least", "most"]
theorem sc_divides : FnScope N_divides ["one", "other"] (defScope s_divides) := ⟨rfl, rfl, rfl, by decide +kernel, rfl, by decide +kernel, by decide +kernel⟩
theorem has_divides (T : Tx K mg) : Has P w K mg base "divides" ["one", "other"] 1 (sp_divides K) := by
  obtain ⟨fd, F⟩ := T.fn_divides
  refine ⟨⟨fd, F.ok sc_divides (fun vs H Q E h => ?_) (fun cdv A outer s H vs Q E hr h => ?_), F.bindsN fun _ _ _ _ _ _ us hl => match us, hl with | [_, _], _ => rfl⟩, F.kp, T.g_divides⟩
  · obtain ⟨R, ⟨x, y, a, b, rfl, _⟩, _⟩ := h; rfl
  · obtain ⟨R, ⟨x, y, a, b, rfl, h1, h2, hxy, h8, rfl⟩, k⟩ := h
    refine ⟨_, PSs.nox (pss_one (ps_ret (pe_callB (cr_all rfl) (by rfl) T.all_ (by decide +kernel) (pa_cons (pe_lc (own := [("least", 2), ("most", 3)]) rfl sc_divides.nd (pi_zipA (by rfl) T.zip_ (pa_cons (pv 0) (pa_cons (pv 1) pa_nil))) (blkOk_by (own := [("least", 2), ("most", 3)]) (N := N_divides) (sc := defScope s_divides) (by decide +kernel)) (by intro _ _ _ _ _; refine pg_pair (K := K) (i := 2) (j := 3) ?_ ?_ ?_ ?_ ?_ ?_ ?_ ?_ ?_; exact rfl; exact rfl; exact sc_divides.nd; exact rfl; exact rfl; all_goals first | exact .inl rfl | exact .inr rfl) (fun _ _ _ _ _ => pts_nil) (by intro _ _ _ _ _; exact (pe_cmpR op_le (pv 2) (pv 3) (nomark _)))) pa_nil)))), ?_⟩
    refine s_ret (v := .bl (dv x y)) (ev_is (ev_allL (evp_lc0 (u := fun p : Nat × Nat => decide (p.1 ≤ p.2)) (ei_zipT (is := x.zip y) (ea_cons (ev_var rfl) (ea_cons (ev_var rfl) ea_nil)) h1 h2 (zip_fst hxy) (zip_snd hxy)) rBl_stb ?_ gm_tup2 ?_)) ?_) (fun H1 e => k _ H1 e rfl)
    · rw [List.length_zip]; omega
    · rintro p v H1 e hm ⟨t, rfl, hp⟩
      refine g_tup2 (st_of hp) ⟨rfl, rfl, EvP.of (ev_is (ev_cmp (ev_var rfl) (ev_var rfl)) ?_)⟩
      by_cases c : p.1 ≤ p.2
      · rw [decide_eq_true c, decide_eq_true (by omega)]
      · rw [decide_eq_false c, decide_eq_false (by omega)]
    · rw [dv_zip hxy]
def sp_law_divides (K : PySem.W.Frag) : Sp := spR fun vs H R => ∃ (x y : List Nat) (a b : Addr), vs = [.ref a, .ref b] ∧ SqT K H a (wV x) ∧ SqT K H b (wV y) ∧ x.length = y.length ∧ x.length ≤ 8 ∧ R = rBl (dv x y)
abbrev N_law_divides : List Str := ["_law_one", "_law_other", "_law_left_here", "_law_right_here"]
theorem sc_law_divides : FnScope N_law_divides ["_law_one", "_law_other"] (defScope s_law_divides) := ⟨rfl, rfl, rfl, by decide +kernel, rfl, by decide +kernel, by decide +kernel⟩
theorem has_law_divides (T : Tx K mg) : Has P w K mg base "_law_divides" ["_law_one", "_law_other"] 1 (sp_law_divides K) := by
  obtain ⟨fd, F⟩ := T.fn_law_divides
  refine ⟨⟨fd, F.ok sc_law_divides (fun vs H Q E h => ?_) (fun cdv A outer s H vs Q E hr h => ?_), F.bindsN fun _ _ _ _ _ _ us hl => match us, hl with | [_, _], _ => rfl⟩, F.kp, T.g_law_divides⟩
  · obtain ⟨R, ⟨x, y, a, b, rfl, _⟩, _⟩ := h; rfl
  · obtain ⟨R, ⟨x, y, a, b, rfl, h1, h2, hxy, h8, rfl⟩, k⟩ := h
    refine ⟨_, PSs.nox (pss_one (ps_ret (pe_cmpR (op_eqD hr.units) (pe_lc (own := [("_law_left_here", 2), ("_law_right_here", 3)]) rfl sc_law_divides.nd (pi_zipA (by rfl) T.zip_ (pa_cons (pv 0) (pa_cons (pv 1) pa_nil))) (blkOk_by (own := [("_law_left_here", 2), ("_law_right_here", 3)]) (N := N_law_divides) (sc := defScope s_law_divides) (by decide +kernel)) (by intro _ _ _ _ _; refine pg_pair (K := K) (i := 2) (j := 3) ?_ ?_ ?_ ?_ ?_ ?_ ?_ ?_ ?_; exact rfl; exact rfl; exact sc_law_divides.nd; exact rfl; exact rfl; all_goals first | exact .inl rfl | exact .inr rfl) (by intro _ _ _ _ _; exact pts_one (pt_cmpR op_gt (pv 2) (pv 3) (nomark _))) (by intro _ _ _ _ _; exact pe_int)) (pe_lst pa_nil) (nomark _)))), ?_⟩
    refine s_ret (v := .bl (dv x y)) (ev_is (ev_isNil (is := (x.zip y).filter fun p => decide (p.2 < p.1)) ?_) (by rw [dv_zip' hxy])) (fun H1 e => k _ H1 e rfl)
    refine evp_lc1 (f := fun p : Nat × Nat => decide (p.2 < p.1)) (ei_zipT (is := x.zip y) (ea_cons (ev_var rfl) (ea_cons (ev_var rfl) ea_nil)) h1 h2 (zip_fst hxy) (zip_snd hxy)) (by rw [List.length_zip]; omega) gm_tup2 ?_
    · rintro p v H1 e hm ⟨t, rfl, hp⟩
      refine g_tup2 (st_of hp) ⟨rfl, rfl, et_is (et_test (ev_cmp (ev_var rfl) (ev_var rfl))) ?_, ev_c⟩
      by_cases c : p.2 < p.1
      · rw [decide_eq_true c, decide_eq_true (by omega)]
      · rw [decide_eq_false c, decide_eq_false (by omega)]
end
end PLW
end
section
set_option Elab.async false
set_option linter.all false
set_option maxRecDepth 100000
set_option maxHeartbeats 2000000
namespace PLW
open PySem PySem.Spec PyProof.Rows L2 Evl RZ
open PL PySem.W
/-! tuples: made of lists, cut, starred, indexed -/
section
variable {K : PySem.W.Frag} {σ : L2.St} {H H' : Hp} {ta tb te tl : TE} {v x y z : V} {D : Ends} {tz tu : TS} {g : TG} {ι κ : Type} {R : ι → Rl} {S : κ → Rl} {is : List ι} {i : Nat} {m : List Nat}
theorem evp_tuple (hs : ∀ i, Stb (R i)) (h : EvP te σ H (rL K R is)) : EvP (tThen te (kTup K)) σ H (rTs K R is) := fun H1 e Q q =>
  h H1 e _ fun v H2 e2 ⟨a, vs, ev, h1, pd⟩ => .inl ⟨a, vs, ev, h1, fun p hp => q _ _ (e2.trans (Ex.new hp)) ⟨p, vs, rfl, st_of upd_same, pd.keep hs (Kp.ex (Ex.new hp))⟩⟩
theorem rTs_W {H : Hp} {v : V} {m : List Nat} (h : rTs K rNat m H v) : rW K m H v := by
  obtain ⟨a, vs, e, h1, pd⟩ := h
  exact ⟨a, e, by rw [← Pd_wV pd]; exact h1⟩
theorem evp_tupleW (h : EvP te σ H (rL K rNat m)) : EvP (tThen te (kTup K)) σ H (rW K m) := (evp_tuple rNat_stb h).imp fun _ _ r => rTs_W r
/-- t[lo:hi] -/
theorem evp_cutT {tlo thi : TO} {a : Addr} {xs : List V} {lo hi : Option Int} (h : Ev te σ H (.ref a)) (h1 : EvO tlo σ H lo) (h2 : EvO thi σ H hi) (hs : SqT K H a xs) : EvP (L2.tSl (rSlA K) te tlo thi) σ H (rT K (cutV xs lo hi)) := fun H1 e Q q =>
  h H1 e _ fun H2 e2 => h1 H2 (e.trans e2) _ fun H3 e3 => h2 H3 ((e.trans e2).trans e3) _ fun H4 e4 => by
    have e5 := (e2.trans e3).trans e4
    refine ⟨a, xs, rfl, ex_t (e.trans e5) hs, fun hw => q _ _ e5 ⟨a, rfl, ?_⟩, fun _ p hp => q _ _ (e5.trans (Ex.new hp)) ⟨p, rfl, st_of upd_same⟩⟩
    unfold cutV
    rw [hw.1, hw.2, List.drop_zero, Nat.sub_zero, List.take_length]
    exact ex_t (e.trans e5) hs
theorem cut_to {xs : List V} {k : Nat} : cutV xs none (some (k : Int)) = xs.take k := by
  unfold cutV
  rw [HT.sIx_none, HT.sIx_nat, List.drop_zero, Nat.sub_zero]
  by_cases h : k ≤ xs.length
  · rw [Nat.min_eq_left h]
  · rw [Nat.min_eq_right (by omega), List.take_length, List.take_of_length_le (by omega)]
theorem cut_from {xs : List V} {k : Nat} : cutV xs (some (k : Int)) none = xs.drop k := by
  unfold cutV
  rw [HT.sIx_none, HT.sIx_nat]
  by_cases h : k ≤ xs.length
  · rw [Nat.min_eq_left h, List.take_of_length_le (by rw [List.length_drop]; omega)]
  · rw [Nat.min_eq_right (by omega), List.drop_length, List.drop_of_length_le (by omega)]
    simp
/-- ( *t, .. ) -/
theorem ea_starT {t : TA} {xs ys : List V} (h : EvP te σ H (rT K xs)) (hr : EvA t σ H ys) : EvA (StX.tStar K te t) σ H (xs ++ ys) := fun H1 e Q q =>
  h H1 e _ fun v H2 e2 ⟨p, ev, hp⟩ => ⟨p, xs, ev, .inl hp, hr H2 (e.trans e2) _ fun H3 e3 => q H3 (e2.trans e3)⟩
theorem ea_starL {t : TA} {xs ys : List V} {a : Addr} (h : Ev te σ H (.ref a)) (hl : SqL K H a xs) (hr : EvA t σ H ys) : EvA (StX.tStar K te t) σ H (xs ++ ys) := fun H1 e Q q =>
  h H1 e _ fun H2 e2 => ⟨a, xs, rfl, .inr (ex_l (e.trans e2) hl), hr H2 (e.trans e2) _ fun H3 e3 => q H3 (e2.trans e3)⟩
theorem evp_tup {t : TA} {xs : List V} (h : EvA t σ H xs) (hl : xs.length ≤ 100000) : EvP (tTup t) σ H (rT K xs) := fun H1 e Q q =>
  eu_tup h hl H1 e Q fun p H2 _ e2 hp => q _ H2 e2 ⟨p, rfl, st_of hp⟩
theorem evp_tupW {t : TA} {xs : List V} (h : EvA t σ H xs) (hm : xs = wV m) (hl : m.length ≤ 100000) : EvP (tTup t) σ H (rW K m) := by
  subst hm
  exact evp_tup h (by rw [wV_len]; exact hl)
theorem evp_tupWh {t : TA} {xs : List V} (h : EvA t σ H xs) (hm : xs = wV m) (hl : m.length ≤ 100000) : EvP (tTup t) σ H (rWh m) := by
  subst hm
  exact fun H1 e Q q => eu_tup h (by rw [wV_len]; exact hl) H1 e Q fun p H2 _ e2 hp => q _ H2 e2 ⟨p, rfl, hp⟩
/-- m[k] -/
theorem ev_wAt {a : Addr} {k : Nat} (h : Ev te σ H (.ref a)) (hm : SqT K H a (wV m)) (hk : k < m.length) (hi : Ev tb σ H (.int (k : Int))) : Ev (tOp (rIxT K) te tb) σ H (.int ((m.getD k 0 : Nat) : Int)) := ev_op h hi (rv_ixT hm (by
  unfold atI
  rw [wV_len, ixN_nat hk]
  show (wV m)[k]? = _
  rw [wV_get, List.getElem?_eq_getElem hk, List.getD_eq_getElem?_getD, List.getElem?_eq_getElem hk]
  rfl))
/-- xs[k], xs a tuple of related values -/
theorem ev_tsAt {p : Addr} {vs : List V} {k : Nat} {v : V} (h : Ev te σ H (.ref p)) (hm : SqT K H p vs) (hi : Ev tb σ H (.int (k : Int))) (hv : vs[k]? = some v) : Ev (tOp (rIxT K) te tb) σ H v := ev_op h hi (rv_ixT hm (by
  have hk := (List.getElem?_eq_some_iff.mp hv).1
  unfold atI
  rw [ixN_nat hk]
  exact hv))
theorem ev_lsAt {p : Addr} {vs : List V} {k : Nat} {v : V} (h : Ev te σ H (.ref p)) (hm : SqL K H p vs) (hi : Ev tb σ H (.int (k : Int))) (hv : vs[k]? = some v) : Ev (tOp (rIxL K) te tb) σ H v := ev_op h hi (rv_ixL hm (by
  have hk := (List.getElem?_eq_some_iff.mp hv).1
  unfold atI
  rw [ixN_nat hk]
  exact hv))
def rLenQ (K : PySem.W.Frag) : List V → Hp → VK → Prop := fun xs H Q => ∃ p ys, xs = [.ref p] ∧ (SqL K H p ys ∨ SqT K H p ys) ∧ Q (.int ys.length) H
theorem ev_lenT {p : Addr} {xs : List V} (ha : Ev ta σ H (.ref p)) (h : SqT K H p xs) : Ev (tCB (rLenQ K) (tCons ta tNil)) σ H (.int (xs.length : Int)) := fun H1 e Q q =>
  ha H1 e _ fun H2 e2 => ⟨p, xs, rfl, Or.inr (ex_t (e.trans e2) h), q H2 e2⟩
theorem ev_lenL {p : Addr} {xs : List V} (ha : Ev ta σ H (.ref p)) (h : SqL K H p xs) : Ev (tCB (rLenQ K) (tCons ta tNil)) σ H (.int (xs.length : Int)) := fun H1 e Q q =>
  ha H1 e _ fun H2 e2 => ⟨p, xs, rfl, Or.inl (ex_l (e.trans e2) h), q H2 e2⟩
theorem ev_lenP (h : EvP te σ H (rL K R is)) : Ev (tCB (rLenQ K) (tCons te tNil)) σ H (.int (is.length : Int)) := fun H1 e Q q =>
  h H1 e _ fun v H2 e2 ⟨a, vs, ev, h1, pd⟩ => ⟨a, vs, by rw [ev], Or.inl h1, by rw [pd.1]; exact q H2 e2⟩
theorem maxI_at {ns : List Int} (h : 0 < ns.length) : ∃ k ∈ ns, ∀ y ∈ ns, y ≤ k := by
  cases ns with
  | nil => simp at h
  | cons n ns => exact ⟨_, foldmax ns n⟩
theorem ev_maxT {a : Addr} {k : Nat} (h : Ev te σ H (.ref a)) (hm : SqT K H a (wV m)) (hk : k ∈ m) (hx : ∀ y ∈ m, y ≤ k) : Ev (tCB (rMaxT K) (tCons te tNil)) σ H (.int (k : Int)) := fun H1 e Q q =>
  h H1 e _ fun H2 e2 => ⟨a, wI m, rfl, by have := ex_t (e.trans e2) hm; rw [wV_ints] at this; exact this, by
    cases m with
    | nil => simp at hk
    | cons b m => exact Nat.succ_pos _, fun u hu hy => by
    obtain ⟨j, hj, rfl⟩ := List.mem_map.mp hu
    have h1 := hx j hj
    have h2 := hy (k : Int) (List.mem_map.mpr ⟨k, hk, rfl⟩)
    have : j = k := by omega
    subst this
    exact q H2 e2⟩
theorem ev_sumT {a : Addr} (h : Ev te σ H (.ref a)) (hm : SqT K H a (wV m)) : Ev (tCB (rSumT K) (tCons te tNil)) σ H (.int ((m.sum : Nat) : Int)) := fun H1 e Q q =>
  h H1 e _ fun H2 e2 => ⟨a, wI m, rfl, by have := ex_t (e.trans e2) hm; rw [wV_ints] at this; exact this, by
    show Q (.int (wI m).sum) H2
    rw [show (wI m).sum = ((m.sum : Nat) : Int) from sum_ints m]
    exact q H2 e2⟩
end
/-- the greatest letter -/
theorem max_mem : ∀ m : List Nat, m ≠ [] → ∃ k ∈ m, ∀ y ∈ m, y ≤ k
  | [], h => absurd rfl h
  | [a], _ => ⟨a, by simp, fun y hy => by simp at hy; omega⟩
  | a :: b :: m, _ => by
    obtain ⟨k, h1, h2⟩ := max_mem (b :: m) (by simp)
    by_cases c : a ≤ k
    · refine ⟨k, List.mem_cons_of_mem _ h1, fun y hy => ?_⟩
      rcases List.mem_cons.mp hy with e | e
      · omega
      · exact h2 y e
    · refine ⟨a, by simp, fun y hy => ?_⟩
      rcases List.mem_cons.mp hy with e | e
      · omega
      · have := h2 y e; omega
theorem lessA_cut : ∀ (m : List Nat) (i e : Nat), i < m.length → lessA m i e = m.take i ++ (m.getD i 0 - e) :: m.drop (i + 1)
  | [], i, e, h => by simp at h
  | a :: m, 0, e, h => by simp [lessA]
  | a :: m, i + 1, e, h => by
    have := lessA_cut m i e (by simpa using h)
    simp [lessA, this]
theorem lessA_len : ∀ (m : List Nat) (i e : Nat), (lessA m i e).length = m.length
  | [], i, e => by cases i <;> rfl
  | a :: m, 0, e => rfl
  | a :: m, i + 1, e => by simp [lessA, lessA_len m i e]
end PLW
end
section
set_option Elab.async false
set_option linter.all false
set_option maxRecDepth 100000
set_option maxHeartbeats 2000000
namespace PLW
open PySem PySem.Spec PyProof.Rows L2 Evl RZ
open PL PySem.W
theorem hu3 {k : Nat} {A : Around} (hr : Room k A) : A.units + 3 < cLine := by have := hr.units; omega
section
variable {K : PySem.W.Frag} {σ : L2.St} {H H' : Hp} {ta tb te tl : TE} {D : Ends} {tz : TS} {v a b : V}
theorem q_asgPair {i j : Nat} {R : Rl} (h : EvP te σ H R) (k : ∀ v H1, Ex H H1 → R H1 v → ∃ a b, rT K [a, b] H1 v ∧ tz D ((σ.set i (some a)).set j (some b)) H1) : tSeq (tAsg te (gTup K 2 (gCons (gName i) (gCons (gName j) gNil)))) tz D σ H := h H (Ex.refl H) _ fun v H1 e r => by
  obtain ⟨a, b, ⟨t, ev, ht⟩, q⟩ := k v H1 e r
  rw [ev]
  exact g_tup2 (Q := fun σ' H' => tz D σ' H') ht q
def rPI (K : PySem.W.Frag) (p : Int × Int) : Rl := rT K [.int p.1, .int p.2]
theorem rPI_stb (p : Int × Int) : Stb (rPI K p) := rT_stb K _
theorem evp_maxP {ps : List (Int × Int)} (h : EvP te σ H (rL K (rPI K) ps)) (hp : 0 < ps.length) : EvP (tCB (rMaxP K) (tCons te tNil)) σ H fun H v => ∃ p ∈ ps, (∀ y ∈ ps, y.1 ≤ p.1) ∧ rPI K p H v := fun H1 e Q q =>
  h H1 e _ fun v H2 e2 ⟨a, vs, ev, h1, pd⟩ => ⟨a, vs, ps, by rw [ev], h1, pd, hp, fun u p hm hx hu => q u H2 e2 ⟨p, hm, hx, hu⟩⟩
theorem q_asgSorted {i : Nat} {ns : List Int} (h : EvP te σ H (rL K rInt ns)) (k : ∀ (p : Addr) (ns' : List Int) (H1 : Hp), ns'.Perm ns → ns'.Pairwise (· ≤ ·) → H p = none → Ex H H1 → H1 p = some (.lst (ns'.map V.int)) → tz D (σ.set i (some (.ref p))) H1) :
    tSeq (tAsg (tCB (rSortedI K) (tCons te tNil)) (gName i)) tz D σ H := h H (Ex.refl H) _ fun v H1 e ⟨a, vs, ev, h1, pd⟩ => ⟨a, ns, by rw [ev], by rw [← pd_val (f := V.int) pd]; exact h1, fun ns' p hp ha hq => k p ns' _ hp ha (fresh_back e hq) (e.trans (Ex.new hq)) upd_same⟩
theorem natlt (a b : Nat) : decide ((a : Int) < (b : Int)) = decide (a < b) := by
  by_cases c : a < b
  · rw [decide_eq_true c, decide_eq_true (by omega)]
  · rw [decide_eq_false c, decide_eq_false (by omega)]
theorem natle (a b : Nat) : decide ((a : Int) ≤ (b : Int)) = decide (a ≤ b) := by
  by_cases c : a ≤ b
  · rw [decide_eq_true c, decide_eq_true (by omega)]
  · rw [decide_eq_false c, decide_eq_false (by omega)]
theorem nateq (a b : Nat) : decide ((a : Int) = (b : Int)) = decide (a = b) := by
  by_cases c : a = b
  · rw [decide_eq_true c, decide_eq_true (by omega)]
  · rw [decide_eq_false c, decide_eq_false (by omega)]
end
section
variable {X : Cx} {K : PySem.W.Frag} {e : Expr} {es : List Expr} {t : TA} {te : TE} {p : Pos}
theorem ix_tupK (h : X.K = K) : IxR X (rIxT K) := by subst h; exact ix_tup
theorem ix_listK (h : X.K = K) : IxR X (rIxL K) := by subst h; exact ix_list
theorem call_len_seqK (h : X.K = K) : CallR X (.builtin "len") (rLenQ K) := by subst h; exact call_len_seq
theorem sl_tupAK (h : X.K = K) : SlR X (rSlA K) := by subst h; exact sl_tupA
theorem op_catAK (h : X.K = K) : OpR X (binaryOp .Add) (rCatA K) := by subst h; exact op_catA
theorem cr_maxTK (h : X.K = K) (hc : X.calm = true) (hu : X.A.units + 1 < cLine) : CallR X (.builtin "max") (rMaxT K) := by subst h; exact cr_maxT hc hu
theorem cr_sumTK (h : X.K = K) (hc : X.calm = true) : CallR X (.builtin "sum") (rSumT K) := by subst h; exact cr_sumT hc
theorem cr_sumK (h : X.K = K) (hc : X.calm = true) : CallR X (.builtin "sum") (rSum K) := by subst h; exact cr_sum hc
theorem op_eqDK (h : X.K = K) (hu : X.A.units + 64 < cLine) : OpR X (compareOp .Eq) (rEqD K) := by subst h; exact op_eqD hu
theorem op_neDK (h : X.K = K) (hu : X.A.units + 64 < cLine) : OpR X (compareOp .NotEq) (rNeD K) := by subst h; exact op_neD hu
theorem pi_tupK {tg l : Expr} {tl : TE} (h : X.K = K) (hl : PE X l tl) : PI X tg l (iTup K tl) := by subst h; exact pi_tup hl
theorem pi_listK {tg l : Expr} {tl : TE} (h : X.K = K) (hl : PE X l tl) : PI X tg l (iList K tl) := by subst h; exact pi_list hl
theorem pe_tupleOfK {a : Expr} {ta : TE} {p pos : Pos} (h : X.K = K) (hg : Gl X "tuple") (hm : X.mg "tuple" = none) (ha : PE X a ta) (na : starEach [a] X.env = (false, eval a X.env) :: starEach [] X.env := by rfl) : PE X (.Call (.Name "tuple" p) [a] [] pos) (tThen ta (kTup K)) := by subst h; exact pe_tupleOf hg hm ha na
end
def isAll : List (List Nat) → Bool
  | [m] => decide (m.sum = 0)
  | _ => false
def cntP (ms : List (List Nat)) (q : Nat) : Nat := (ms.filter fun x => decide (0 < x.getD q 0)).length
theorem sum_zero : ∀ {m : List Nat}, m.sum = 0 ↔ ∀ k ∈ m, k = 0
  | [] => by simp
  | a :: m => by
    rw [List.sum_cons]
    constructor
    · intro h k hk
      rcases List.mem_cons.mp hk with e | e
      · omega
      · exact (sum_zero (m := m)).mp (by omega) k e
    · intro h
      have h1 := h a (by simp)
      have h2 := (sum_zero (m := m)).mpr fun k hk => h k (List.mem_cons_of_mem _ hk)
      omega
section
variable {P : Program} {w : World} {K : PySem.W.Frag} {mg : Str → Option Value} {base : Heap}
def sp_law_has (K : PySem.W.Frag) : Sp := spR fun vs H R => ∃ (ms : List (List Nat)) (m : List Nat) (v : V) (b : Addr), vs = [v, .ref b] ∧ rL K (rW K) ms H v ∧ SqT K H b (wV m) ∧ (∀ x ∈ ms, x.length = m.length) ∧ m.length ≤ 8 ∧ ms.length ≤ 40000 ∧ R = rBl (inI ms m)
abbrev N_law_has : List Str := ["_law_members_here", "_law_product", "_law_member"]
theorem sc_law_has : FnScope N_law_has ["_law_members_here", "_law_product"] (defScope s_law_has) := ⟨rfl, rfl, rfl, by decide +kernel, rfl, by decide +kernel, by decide +kernel⟩
theorem has_law_has (T : Tx K mg) : Has P w K mg base "_law_has" ["_law_members_here", "_law_product"] 2 (sp_law_has K) := by
  have h_law_divides : Has P w K mg base _ _ 1 (sp_law_divides K) := has_law_divides T
  obtain ⟨fd, F⟩ := T.fn_law_has
  refine ⟨⟨fd, F.ok sc_law_has (fun vs H Q E h => ?_) (fun cdv A outer s H vs Q E hr h => ?_), F.bindsN fun _ _ _ _ _ _ us hl => match us, hl with | [_, _], _ => rfl⟩, F.kp, T.g_law_has⟩
  · obtain ⟨R, ⟨ms, m, v, b, rfl, _⟩, _⟩ := h; rfl
  · obtain ⟨R, ⟨ms, m, v, b, rfl, hv, hb, hx, h8, hn, rfl⟩, k⟩ := h
    refine ⟨_, PSs.nox (pss_one (ps_ret (pe_cmpR (op_neD hr.units) (pe_lc (own := [("_law_member", 2)]) rfl sc_law_has.nd (pi_list (pv 0)) (blkOk_by (own := [("_law_member", 2)]) (N := N_law_has) (sc := defScope s_law_has) (by decide +kernel)) (by intro _ _ _ _ _; refine pg_nm (i := 2) ?_ ?_ ?_ ?_; exact sc_law_has.nd; exact rfl; all_goals first | exact .inl rfl | exact .inr rfl) (by intro _ _ _ _ _; exact pts_one (pt_val (pe_h h_law_divides (hr.mono (by decide)) pass0 (pa_cons (pv 2) (pa_cons (pv 1) pa_nil))))) (by intro _ _ _ _ _; exact pe_int)) (pe_lst pa_nil) (nomark _)))), ?_⟩
    refine s_ret (v := .bl (inI ms m)) (ev_is (ev_isNil' (is := ms.filter fun x => dv x m) ?_) (by rw [any_filter]; rfl)) (fun H1 e => k _ H1 e rfl)
    refine evp_lc1 (f := fun x => dv x m) (ei_list (R := rW K) (rW_stb K) (evp_var rfl fun H1 e => rL_ex (rW_stb K) e hv)) hn gm_name ?_
    rintro x u H1 e hm ⟨a, rfl, ha⟩
    exact ⟨rfl, rfl, et_test (evp_call (ea_cons (ev_var rfl) (ea_cons (ev_var rfl) ea_nil)) (SpP.of fun H2 e2 => ⟨x, m, a, b, rfl, ex_t e2 ha, ex_t (e.trans e2) hb, hx x hm, by rw [hx x hm]; exact h8, rfl⟩)).ev, ev_c⟩
def sp_are_long (K : PySem.W.Frag) : Sp := spR fun vs H R => ∃ (ms : List (List Nat)) (v : V), vs = [v] ∧ rL K (rW K) ms H v ∧ (∀ x ∈ ms, x ≠ [] ∧ ∀ k ∈ x, k ≤ 60) ∧ ms.length ≤ 40000 ∧ R = rBl false
abbrev N_are_long : List Str := ["products", "product"]
theorem sc_are_long : FnScope N_are_long ["products"] (defScope s_are_long) := ⟨rfl, rfl, rfl, by decide +kernel, rfl, by decide +kernel, by decide +kernel⟩
theorem has_are_long (T : Tx K mg) : Has P w K mg base "are_long" ["products"] 1 (sp_are_long K) := by
  obtain ⟨_, m_MAX_EXPONENT⟩ := T.i_MAX_EXPONENT
  obtain ⟨fd, F⟩ := T.fn_are_long
  refine ⟨⟨fd, F.ok sc_are_long (fun vs H Q E h => ?_) (fun cdv A outer s H vs Q E hr h => ?_), F.bindsN fun _ _ _ _ _ _ us hl => match us, hl with | [_], _ => rfl⟩, F.kp, T.g_are_long⟩
  · obtain ⟨R, ⟨ms, v, rfl, _⟩, _⟩ := h; rfl
  · obtain ⟨R, ⟨ms, v, rfl, hv, hx, hn, rfl⟩, k⟩ := h
    refine ⟨_, PSs.nox (pss_one (ps_ret (pe_callB (cr_any rfl) (by rfl) T.any_ (by decide +kernel) (pa_cons (pe_lc (own := [("product", 1)]) rfl sc_are_long.nd (pi_list (pv 0)) (blkOk_by (own := [("product", 1)]) (N := N_are_long) (sc := defScope s_are_long) (by decide +kernel)) (by intro _ _ _ _ _; refine pg_nm (i := 1) ?_ ?_ ?_ ?_; exact sc_are_long.nd; exact rfl; all_goals first | exact .inl rfl | exact .inr rfl) (fun _ _ _ _ _ => pts_nil) (by intro _ _ _ _ _; exact (pe_cmpR op_gt (pe_callB (cr_maxTK (K := K) rfl rfl (hu_of hr)) (by rfl) T.max_ (by decide +kernel) (pa_cons (pv 1) pa_nil)) (pe_glob (v := .int 60) rfl m_MAX_EXPONENT ⟨_, rfl⟩) (nomark _)))) pa_nil)))), ?_⟩
    refine s_ret (v := .bl false) (ev_is (ev_anyL (bs := ms.map fun _ => false) (evp_lc0 (ei_list (R := rW K) (rW_stb K) (evp_var rfl fun H1 e => rL_ex (rW_stb K) e hv)) rBl_stb hn gm_name ?_)) ?_) (fun H1 e => k _ H1 e rfl)
    · rintro x u H1 e hm ⟨a, rfl, ha⟩
      obtain ⟨h1, h2⟩ := hx x hm
      obtain ⟨g, g1, g2⟩ := max_mem x h1
      have := h2 g g1
      exact ⟨rfl, rfl, EvP.of (ev_is (ev_cmp (ev_maxT (ev_var rfl) ha g1 g2) ev_c) (by rw [decide_eq_false (by omega)]))⟩
    · have : (ms.map fun _ => false).any id = false := by
        induction ms with
        | nil => rfl
        | cons a l ih => simp
      rw [this]
def sp_is_all_in (K : PySem.W.Frag) : Sp := spR fun vs H R => ∃ (ms : List (List Nat)) (v : V), vs = [v] ∧ rTs K (rW K) ms H v ∧ (∀ x ∈ ms, x ≠ []) ∧ R = rBl (isAll ms)
abbrev N_is_all_in : List Str := ["members"]
theorem sc_is_all_in : FnScope N_is_all_in ["members"] (defScope s_is_all_in) := ⟨rfl, rfl, rfl, by decide +kernel, rfl, by decide +kernel, by decide +kernel⟩
theorem has_is_all_in (T : Tx K mg) : Has P w K mg base "is_all_in" ["members"] 1 (sp_is_all_in K) := by
  obtain ⟨fd, F⟩ := T.fn_is_all_in
  refine ⟨⟨fd, F.ok sc_is_all_in (fun vs H Q E h => ?_) (fun cdv A outer s H vs Q E hr h => ?_), F.bindsN fun _ _ _ _ _ _ us hl => match us, hl with | [_], _ => rfl⟩, F.kp, T.g_is_all_in⟩
  · obtain ⟨R, ⟨ms, v, rfl, _⟩, _⟩ := h; rfl
  · obtain ⟨R, ⟨ms, v, rfl, ⟨a, vs, rfl, ha, pd⟩, hx, rfl⟩, k⟩ := h
    refine ⟨_, PSs.nox (pss_one (ps_ret (pe_and (pe_cmpR op_eq (pe_callB call_len_seq (by rfl) T.len_ (by decide +kernel) (pa_cons (pv 0) pa_nil)) pe_int (nomark _)) (pe_one (pe_cmpR op_eq (pe_callB (cr_maxT rfl (hu_of hr)) (by rfl) T.max_ (by decide +kernel) (pa_cons (pe_ix ix_tup (pv 0) pe_int (fun _ _ => rfl)) pa_nil)) pe_int (nomark _)))))), ?_⟩
    refine s_ret (v := .bl (decide (ms.length = 1) && isAll ms)) (ev_andV (ev_is (ev_eqI (ev_lenT (ev_var rfl) ha) ev_c) (by rw [pd.1]; exact congrArg V.bl (nateq _ 1))) (fun z => ?_)) (fun H1 e => k _ H1 e ?_)
    · obtain ⟨m, rfl⟩ : ∃ m, ms = [m] := by
        have := of_decide_eq_true z
        match ms, this with
        | [m], _ => exact ⟨m, rfl⟩
      obtain ⟨u, hu, b, rfl, hb⟩ := pd.at (j := 0) (i := m) rfl
      obtain ⟨g, g1, g2⟩ := max_mem m (hx m (by simp))
      refine ev_is (ev_eqI (ev_maxT (m := m) (ev_tsAt (k := 0) (ev_var rfl) ha ev_c hu) hb g1 g2) ev_c) ?_
      show V.bl _ = V.bl (decide (m.sum = 0))
      by_cases c : m.sum = 0
      · rw [decide_eq_true c, decide_eq_true (by have := sum_zero.mp c g g1; omega)]
      · rw [decide_eq_false c, decide_eq_false (fun z => c (sum_zero.mpr fun y hy => by have := g2 y hy; omega))]
    · show V.bl _ = V.bl _
      match ms with
      | [] => rfl
      | [m] => rfl
      | _ :: _ :: _ => simp [isAll]
def sp_lessened (K : PySem.W.Frag) : Sp := spR fun vs H R => ∃ (m : List Nat) (i e : Nat) (a : Addr), vs = [.ref a, .int (i : Int), .int (e : Int)] ∧ SqT K H a (wV m) ∧ i < m.length ∧ m.length ≤ 8 ∧ R = rWh (lessA m i e)
abbrev N_lessened : List Str := ["member", "place", "exponent"]
theorem sc_lessened : FnScope N_lessened ["member", "place", "exponent"] (defScope s_lessened) := ⟨rfl, rfl, rfl, by decide +kernel, rfl, by decide +kernel, by decide +kernel⟩
theorem has_lessened (T : Tx K mg) : Has P w K mg base "lessened" ["member", "place", "exponent"] 1 (sp_lessened K) := by
  obtain ⟨fd, F⟩ := T.fn_lessened
  refine ⟨⟨fd, F.ok sc_lessened (fun vs H Q E h => ?_) (fun cdv A outer s H vs Q E hr h => ?_), F.bindsN fun _ _ _ _ _ _ us hl => match us, hl with | [_, _, _], _ => rfl⟩, F.kp, T.g_lessened⟩
  · obtain ⟨R, ⟨m, i, e, a, rfl, _⟩, _⟩ := h; rfl
  · obtain ⟨R, ⟨m, i, x, a, rfl, ha, hi, h8, rfl⟩, k⟩ := h
    refine ⟨_, PSs.nox (pss_one (ps_ret (pe_tup (StX.pa_star (pe_slice sl_tupA (pv 0) po_none (po_some (pv 1))) (pa_cons (pe_callB (call_max2 rfl) (by rfl) T.max_ (by decide +kernel) (pa_cons pe_int (pa_cons (pe_op op_sub (pe_ix ix_tup (pv 0) (pv 1) (fun _ _ => rfl)) (pv 2)) pa_nil))) (StX.pa_star (pe_slice sl_tupA (pv 0) (po_some (pe_op op_add (pv 1) pe_int)) po_none) pa_nil)))))), ?_⟩
    refine s_retP (R := rWh (lessA m i x)) (evp_tupWh (m := lessA m i x) (ea_starT (evp_cutT (ev_var rfl) eo_none (eo_some (ev_var rfl)) ha) (ea_cons (ev_cb (ea_cons ev_c (ea_cons (ev_bin (ev_wAt (ev_var rfl) ha hi (ev_var rfl)) (ev_var rfl)) ea_nil)) fun H1 _ Q q => ⟨_, _, rfl, q⟩) (ea_starT (evp_cutT (ev_var rfl) (eo_some (ev_bin (ev_var rfl) ev_c)) eo_none ha) ea_nil))) ?_ (by rw [lessA_len]; omega)) (fun v H1 e h => k _ H1 e h)
    rw [cut_to, show (i : Int) + 1 = ((i + 1 : Nat) : Int) by omega, cut_from, lessA_cut m i x hi]
    unfold wV
    rw [List.map_append, List.map_cons, List.map_take, List.map_drop, List.append_nil]
    congr 1
    congr 1
    congr 1
    split <;> omega
def exps (ms : List (List Nat)) (p : Nat) : List Nat := (ms.filter fun x => decide (0 < x.getD p 0)).map fun x => x.getD p 0
theorem asc_high {ns : List Int} (hp : ns.Pairwise (· ≤ ·)) {k : Nat} {e : Int} (hk : ns[k]? = some e) : ∀ x ∈ ns.drop k, e ≤ x := by
  intro x hx
  obtain ⟨j, hj, rfl⟩ := List.getElem_of_mem hx
  have hj' : j < ns.length - k := by rw [List.length_drop] at hj; exact hj
  obtain ⟨h1, rfl⟩ := List.getElem?_eq_some_iff.mp hk
  rw [List.getElem_drop]
  by_cases c : j = 0
  · subst c; exact Int.le_refl _
  · exact List.pairwise_iff_getElem.mp hp k (k + j) h1 (by omega) (by omega)
def sp_split_exponent (K : PySem.W.Frag) : Sp := spR fun vs H R => ∃ (ms : List (List Nat)) (p : Nat) (v : V), vs = [v, .int (p : Int)] ∧ rTs K (rW K) ms H v ∧ (∀ x ∈ ms, p < x.length) ∧ ms.length ≤ 40000 ∧ 2 ≤ cntP ms p ∧
  R = fun _ v => ∃ e : Nat, v = .int (e : Int) ∧ 0 < e ∧ 2 ≤ (ms.filter fun x => decide (e ≤ x.getD p 0)).length
abbrev N_split_exponent : List Str := ["members", "place", "exponents", "member"]
theorem sc_split_exponent : FnScope N_split_exponent ["members", "place"] (defScope s_split_exponent) := ⟨rfl, rfl, rfl, by decide +kernel, rfl, by decide +kernel, by decide +kernel⟩
theorem has_split_exponent (T : Tx K mg) : Has P w K mg base "split_exponent" ["members", "place"] 1 (sp_split_exponent K) := by
  obtain ⟨fd, F⟩ := T.fn_split_exponent
  refine ⟨⟨fd, F.ok sc_split_exponent (fun vs H Q E h => ?_) (fun cdv A outer s H vs Q E hr h => ?_), F.bindsN fun _ _ _ _ _ _ us hl => match us, hl with | [_, _], _ => rfl⟩, F.kp, T.g_split_exponent⟩
  · obtain ⟨R, ⟨ms, p, v, rfl, _⟩, _⟩ := h; rfl
  · obtain ⟨R, ⟨ms, p, v, rfl, hv, hx, hn, h2, rfl⟩, k⟩ := h
    refine ⟨_, PSs.nox (pss_cons (ps_set (i := 2) sc_split_exponent.nd rfl (Or.inl rfl) (pe_callB cr_sortedI (by rfl) T.sorted_ (by decide +kernel) (pa_cons (pe_lc (own := [("member", 3)]) rfl sc_split_exponent.nd (pi_tup (pv 0)) (blkOk_by (own := [("member", 3)]) (N := N_split_exponent) (sc := defScope s_split_exponent) (by decide +kernel)) (by intro _ _ _ _ _; refine pg_nm (i := 3) ?_ ?_ ?_ ?_; exact sc_split_exponent.nd; exact rfl; all_goals first | exact .inl rfl | exact .inr rfl) (by intro _ _ _ _ _; exact pts_one (pt_cmpR op_gt (pe_ix (ix_tupK (K := K) rfl) (pv 3) (pv 1) (fun _ _ => rfl)) pe_int (nomark _))) (by intro _ _ _ _ _; exact (pe_ix (ix_tupK (K := K) rfl) (pv 3) (pv 1) (fun _ _ => rfl)))) pa_nil))) (pss_one (ps_ret (pe_ix ix_list (pv 2) (pe_op op_fdiv (pe_op op_sub (pe_callB call_len_seq (by rfl) T.len_ (by decide +kernel) (pa_cons (pv 2) pa_nil)) pe_int) pe_int) (fun _ _ => rfl))))), ?_⟩
    refine q_asgSorted (evp_lc (f := fun x => decide (0 < x.getD p 0)) (u := fun x : List Nat => ((x.getD p 0 : Nat) : Int)) (S := rInt) (ei_tup (R := rW K) (rW_stb K) (evp_var rfl fun H1 e => rTs_stb (rW_stb K) (Kp.ex e) hv)) rInt_stb hn gm_name ?_) (fun q ns' H1 hperm hasc hq e1 hq1 => ?_)
    · rintro x u H1 e hm ⟨a, rfl, ha⟩
      have hxm := hx x hm
      exact ⟨rfl, rfl, et_is (et_test (ev_cmp (ev_wAt (ev_var rfl) ha hxm (ev_var rfl)) ev_c)) (natlt 0 _), fun _ => EvP.of (ev_wAt (ev_var rfl) ha hxm (ev_var rfl))⟩
    have hperm : ns'.Perm (wI (exps ms p)) := by
      unfold wI exps
      rw [List.map_map]
      exact hperm
    have hlen : ns'.length = (exps ms p).length := by rw [hperm.length_eq]; unfold wI; rw [List.length_map]
    have hlen2 : (exps ms p).length = cntP ms p := by unfold exps; rw [List.length_map]; rfl
    have hlt : (ns'.length - 1) / 2 < ns'.length := by omega
    have he : ∃ e : Nat, ns'[(ns'.length - 1) / 2]? = some (e : Int) ∧ e ∈ exps ms p := by
      have h3 := List.getElem?_eq_getElem hlt
      have h4 := hperm.mem_iff.mp (List.mem_of_getElem? h3)
      obtain ⟨e, he, h5⟩ := List.mem_map.mp h4
      exact ⟨e, by rw [h3, ← h5], he⟩
    obtain ⟨e, he1, he2⟩ := he
    have hsq : SqL K H1 q (ns'.map V.int) := sq_of hq1
    refine s_ret (v := .int (e : Int)) (ev_lsAt (k := (ns'.length - 1) / 2) (ev_var rfl) hsq (ev_is (ev_fdiv (ev_bin (ev_lenL (ev_var rfl) hsq) ev_c) ev_c ⟨by omega, by omega⟩) ?_) (by rw [List.getElem?_map, he1]; rfl)) (fun H2 e2 => k _ H2 (e1.trans e2) ⟨e, rfl, ?_, ?_⟩)
    · rw [List.length_map]
      congr 1
      omega
    · obtain ⟨x, hxm, rfl⟩ := List.mem_map.mp he2
      exact of_decide_eq_true (List.mem_filter.mp hxm).2
    · have hh := asc_high hasc he1
      have c1 : ((ns'.drop ((ns'.length - 1) / 2)).filter fun z => decide ((e : Int) ≤ z)).length = ns'.length - (ns'.length - 1) / 2 := by
        rw [List.filter_eq_self.mpr fun z hz => decide_eq_true (hh z hz), List.length_drop]
      have c2 : ((ns'.drop ((ns'.length - 1) / 2)).filter fun z => decide ((e : Int) ≤ z)).length ≤ (ns'.filter fun z => decide ((e : Int) ≤ z)).length := ((List.drop_sublist _ _).filter _).length_le
      have c3 : (ns'.filter fun z => decide ((e : Int) ≤ z)).length = ((exps ms p).filter fun z => decide (e ≤ z)).length := by
        rw [(hperm.filter _).length_eq]
        unfold wI
        rw [List.filter_map, List.length_map]
        congr 2
        funext z
        exact natle e z
      have c4 : ((exps ms p).filter fun z => decide (e ≤ z)).length ≤ (ms.filter fun x => decide (e ≤ x.getD p 0)).length := by
        unfold exps
        rw [List.filter_map, List.length_map]
        exact ((List.filter_sublist).filter _).length_le
      omega
def sp_most_common_letter (K : PySem.W.Frag) : Sp := spR fun vs H R => ∃ (ms : List (List Nat)) (n : Nat) (v : V), vs = [v] ∧ rTs K (rW K) ms H v ∧ (∀ x ∈ ms, x.length = n) ∧ 0 < ms.length ∧ 1 ≤ n ∧ n ≤ 8 ∧ ms.length ≤ 40000 ∧
  R = fun H v => ∃ p : Nat, p < n ∧ (∀ q, q < n → cntP ms q ≤ cntP ms p) ∧ rT K [.int ((cntP ms p : Nat) : Int), .int (p : Int)] H v
abbrev N_most_common_letter : List Str := ["members", "place", "found", "many", "member"]
theorem sc_most_common_letter : FnScope N_most_common_letter ["members"] (defScope s_most_common_letter) := ⟨rfl, rfl, rfl, by decide +kernel, rfl, by decide +kernel, by decide +kernel⟩
theorem has_most_common_letter (T : Tx K mg) : Has P w K mg base "most_common_letter" ["members"] 1 (sp_most_common_letter K) := by
  obtain ⟨fd, F⟩ := T.fn_most_common_letter
  refine ⟨⟨fd, F.ok sc_most_common_letter (fun vs H Q E h => ?_) (fun cdv A outer s H vs Q E hr h => ?_), F.bindsN fun _ _ _ _ _ _ us hl => match us, hl with | [_], _ => rfl⟩, F.kp, T.g_most_common_letter⟩
  · obtain ⟨R, ⟨ms, n, v, rfl, _⟩, _⟩ := h; rfl
  · obtain ⟨R, ⟨ms, n, v, rfl, hv, hx, hl, n1, n8, hn, rfl⟩, k⟩ := h
    refine ⟨_, PSs.nox (pss_cons (ps_setLc (i := 2) (own := [("place", 1)]) rfl sc_most_common_letter.nd rfl rfl (sw_true rfl rfl rfl (by decide +kernel)) (pi_range1 (by rfl) T.range_ (pa_cons (pe_callB call_len_seq (by rfl) T.len_ (by decide +kernel) (pa_cons (pe_ix ix_tup (pv 0) pe_int (fun _ _ => rfl)) pa_nil)) pa_nil)) (blkOk_by (own := [("place", 1)]) (N := N_most_common_letter) (sc := defScope s_most_common_letter) (by decide +kernel)) (by intro _ _ _ _ _; refine pg_nm (i := 1) ?_ ?_ ?_ ?_; exact sc_most_common_letter.nd; exact rfl; all_goals first | exact .inl rfl | exact .inr rfl) (fun _ _ _ _ _ => pts_nil) (by intro _ _ _ _ _; exact (pe_tup (pa_cons (pe_callB (call_len_seqK (K := K) rfl) (by rfl) T.len_ (by decide +kernel) (pa_cons (pe_lc (own := [("member", 4)]) rfl sc_most_common_letter.nd (pi_tupK (K := K) rfl (pv 0)) (by exact blkOk_by (own := [("member", 4)]) (N := N_most_common_letter) (by kernel_rfl)) (by intro _ _ _ _ _; refine pg_nm (i := 4) ?_ ?_ ?_ ?_; exact sc_most_common_letter.nd; exact rfl; all_goals first | exact .inl rfl | exact .inr rfl) (by intro _ _ _ _ _; exact pts_one (pt_cmpR op_gt (pe_ix (ix_tupK (K := K) rfl) (pv 4) (pv 1) (fun _ _ => rfl)) pe_int (nomark _))) (by intro _ _ _ _ _; exact pe_int)) pa_nil)) (pa_cons (pe_un un_neg (pv 1)) pa_nil))))) (pss_cons (ps_asg (pe_callB (cr_maxP rfl (hu3 hr)) (by rfl) T.max_ (by decide +kernel) (pa_cons (pv 2) pa_nil)) (pg_tup rfl (pgs_cons (pg_name (i := 3) sc_most_common_letter.nd rfl (Or.inl rfl)) (pgs_cons (pg_name (i := 1) sc_most_common_letter.nd rfl (Or.inl rfl)) pgs_nil)))) (pss_one (ps_ret (pe_tup (pa_cons (pv 3) (pa_cons (pe_un un_neg (pv 1)) pa_nil))))))), ?_⟩
    obtain ⟨a, vs, rfl, ha, pd⟩ := id hv
    obtain ⟨m0, hm0⟩ : ∃ m0, ms[0]? = some m0 := ⟨ms[0], List.getElem?_eq_getElem hl⟩
    obtain ⟨u0, hu0, b0, rfl, hb0⟩ := pd.at hm0
    have hm0n : m0.length = n := hx m0 (List.mem_of_getElem? hm0)
    refine q_asgP (Rr := rL K (rPI K) ((List.range n).map fun q : Nat => (((cntP ms q : Nat) : Int), -(q : Int)))) (evp_lc0 (u := fun q : Nat => (((cntP ms q : Nat) : Int), -(q : Int))) (S := rPI K) (ei_rng1 (n := n) (ea_cons (ev_is (ev_lenT (ev_tsAt (k := 0) (ev_var rfl) ha ev_c hu0) hb0) (by rw [wV_len, hm0n])) ea_nil) (by omega)) rPI_stb (by rw [List.length_range]; omega) gm_name ?_) (fun u H1 e1 hu => ?_)
    · intro q x H1 e hq hxq
      have hx2 : x = V.int (q : Int) := hxq
      subst hx2
      have hqn := List.mem_range.mp hq
      refine ⟨rfl, rfl, evp_tup (ea_cons (ev_is (ev_lenP (evp_lc1 (f := fun x => decide (0 < x.getD q 0)) (ei_tup (R := rW K) (rW_stb K) (evp_var rfl fun H1' e' => rTs_stb (rW_stb K) (Kp.ex (e.trans e')) hv)) hn gm_name ?_)) rfl) (ea_cons (ev_un (ev_var rfl) ru_neg) ea_nil)) (show 2 ≤ 100000 by decide)⟩
      rintro y z H2 e2 hy ⟨c, rfl, hc⟩
      exact ⟨rfl, rfl, et_is (et_test (ev_cmp (ev_wAt (ev_var rfl) hc (by rw [hx y hy]; exact hqn) (ev_var rfl)) ev_c)) (natlt 0 _), ev_c⟩
    · refine q_asgPair (K := K) (evp_maxP (evp_var rfl fun H2 e2 => rL_ex rPI_stb e2 hu) (by rw [List.length_map, List.length_range]; omega)) (fun z H2 e2 ⟨p, hp, hmax, hz⟩ => ⟨.int p.1, .int p.2, hz, ?_⟩)
      obtain ⟨q, hq, rfl⟩ := List.mem_map.mp hp
      have hqn := List.mem_range.mp hq
      refine s_retP (R := rT K [.int ((cntP ms q : Nat) : Int), .int (q : Int)]) (evp_tup (ea_cons (ev_var rfl) (ea_cons (ev_is (ev_un (ev_var rfl) ru_neg) ?_) ea_nil)) (show 2 ≤ 100000 by decide)) (fun w H3 e3 hw => k _ H3 ((e1.trans e2).trans e3) ⟨q, hqn, fun r hr => ?_, hw⟩)
      · show V.int (-(-(q : Int))) = V.int (q : Int)
        rw [Int.neg_neg]
      · have := hmax (((cntP ms r : Nat) : Int), -(r : Int)) (List.mem_map.mpr ⟨r, List.mem_range.mpr hr, rfl⟩)
        have h2 : ((cntP ms r : Nat) : Int) ≤ ((cntP ms q : Nat) : Int) := this
        omega
end
end PLW
end
section
set_option Elab.async false
set_option linter.all false
set_option maxRecDepth 100000
set_option maxHeartbeats 2000000
namespace PLW
open PySem PySem.Spec PyProof.Rows L2 Evl RZ
open PL PySem.W
/-! numerators as dicts -/
def dkv (N : Nm) : List (Key × V) := N.map fun p => (Sum.inl (p.1 : Int), V.int p.2)
def nd (N : Nm) : Prop := (N.map Prod.fst).Nodup
def gv (N : Nm) (k : Nat) : Option Int := (N.find? fun p => decide (p.1 = k)).map Prod.snd
theorem dkv_val : ∀ (N : Nm) (k : Nat), valV (dkv N) (Sum.inl (k : Int)) = (gv N k).map V.int
  | [], k => rfl
  | p :: N, k => by
    by_cases h : p.1 = k
    · rw [show dkv (p :: N) = (Sum.inl (p.1 : Int), V.int p.2) :: dkv N from rfl, valV_pos (by rw [h])]
      unfold gv
      rw [List.find?_cons, decide_eq_true h]
      rfl
    · rw [show dkv (p :: N) = (Sum.inl (p.1 : Int), V.int p.2) :: dkv N from rfl, valV_neg (by intro z; exact h (Int.ofNat.inj (Sum.inl.inj z))), dkv_val N k]
      unfold gv
      rw [List.find?_cons, decide_eq_false h]
theorem gv_none {N : Nm} {k : Nat} : gv N k = none ↔ ∀ p ∈ N, p.1 ≠ k := by
  unfold gv
  rw [Option.map_eq_none_iff, List.find?_eq_none]
  constructor
  · intro h p hp e; exact h p hp (decide_eq_true e)
  · intro h p hp e; exact h p hp (of_decide_eq_true e)
theorem gv_mem {N : Nm} (hn : nd N) {p : Nat × Int} (hp : p ∈ N) : gv N p.1 = some p.2 := by
  induction N with
  | nil => simp at hp
  | cons q N ih =>
    unfold nd at hn
    rw [List.map_cons, List.nodup_cons] at hn
    unfold gv
    rw [List.find?_cons]
    rcases List.mem_cons.mp hp with e | e
    · subst e
      rw [decide_eq_true rfl]
      rfl
    · have : q.1 ≠ p.1 := fun z => hn.1 (by rw [z]; exact List.mem_map.mpr ⟨p, e, rfl⟩)
      rw [decide_eq_false this]
      exact ih hn.2 e
theorem keyne {a b : Nat} (h : a ≠ b) : ¬ ((Sum.inl (a : Int) : Key) = Sum.inl (b : Int)) := fun z => h (by injection z with z; omega)
theorem dkv_any (N : Nm) (k : Nat) : ((dkv N).any fun kv => decide (kv.1 = Sum.inl (k : Int))) = N.any fun p => decide (p.1 = k) := by
  unfold dkv
  rw [List.any_map]
  congr 1
  funext p
  show decide ((Sum.inl (p.1 : Int) : Key) = Sum.inl (k : Int)) = decide (p.1 = k)
  by_cases h : p.1 = k
  · rw [h, decide_eq_true rfl, decide_eq_true rfl]
  · rw [decide_eq_false h, decide_eq_false (keyne h)]
theorem addn_new : ∀ {N : Nm} {k : Nat} {c : Int}, (∀ p ∈ N, p.1 ≠ k) → addn N k c = N ++ [(k, c)]
  | [], _, _, _ => rfl
  | p :: N, k, c, h => by
    rw [addn, if_neg (h p (by simp)), addn_new (fun q hq => h q (List.mem_cons_of_mem _ hq))]
    rfl
theorem dkv_old : ∀ {N : Nm} {k : Nat} {c : Int}, (∀ p ∈ N, p.1 ≠ k) → (dkv N).map (fun kv => if kv.1 = Sum.inl (k : Int) then (kv.1, V.int c) else kv) = dkv N := fun {N k c} h => by
  unfold dkv
  rw [List.map_map]
  refine List.map_congr_left fun p hp => ?_
  show (if (Sum.inl (p.1 : Int) : Key) = Sum.inl (k : Int) then _ else _) = _
  rw [if_neg (keyne (h p hp))]
theorem dkv_put : ∀ {N : Nm} {k : Nat} {c : Int}, nd N → putK (dkv N) (Sum.inl (k : Int)) (V.int ((gv N k).getD 0 + c)) = dkv (addn N k c) := fun {N k c} hn => by
  unfold putK
  rw [dkv_any]
  cases hg : gv N k with
  | none =>
    have h0 := gv_none.mp hg
    rw [if_neg (by rw [List.any_eq_true]; rintro ⟨p, hp, z⟩; exact h0 p hp (of_decide_eq_true z)), addn_new h0]
    unfold dkv
    rw [List.map_append]
    show _ ++ [(Sum.inl (k : Int), V.int (0 + c))] = _
    rw [Int.zero_add]
    rfl
  | some a =>
    have hm : ∃ p ∈ N, p.1 = k := by
      by_cases z : ∃ p ∈ N, p.1 = k
      · exact z
      · have := gv_none.mpr (fun p hp e => z ⟨p, hp, e⟩)
        rw [this] at hg; cases hg
    obtain ⟨p, hp, rfl⟩ := hm
    have ha := gv_mem hn hp
    rw [ha] at hg
    obtain rfl := Option.some.inj hg
    rw [if_pos (List.any_eq_true.mpr ⟨p, hp, decide_eq_true rfl⟩)]
    show (dkv N).map (fun kv => if kv.1 = Sum.inl (p.1 : Int) then (kv.1, V.int (p.2 + c)) else kv) = dkv (addn N p.1 c)
    clear ha
    induction N with
    | nil => simp at hp
    | cons q N ih =>
      unfold nd at hn
      rw [List.map_cons, List.nodup_cons] at hn
      rw [addn]
      rcases List.mem_cons.mp hp with e | e
      · subst e
        rw [if_pos rfl]
        show (if (Sum.inl (p.1 : Int) : Key) = Sum.inl (p.1 : Int) then _ else _) :: _ = _ :: dkv N
        rw [if_pos rfl]
        have := dkv_old (N := N) (k := p.1) (c := p.2 + c) (fun q hq z => hn.1 (by rw [← z]; exact List.mem_map.mpr ⟨q, hq, rfl⟩))
        exact congrArg _ this
      · have hne : ¬ q.1 = p.1 := fun z => hn.1 (by rw [z]; exact List.mem_map.mpr ⟨p, e, rfl⟩)
        rw [if_neg hne]
        show (if (Sum.inl (q.1 : Int) : Key) = Sum.inl (p.1 : Int) then _ else _) :: _ = _ :: dkv (addn N p.1 c)
        rw [if_neg (keyne hne)]
        congr 1
        exact ih hn.2 e
theorem addn_keys {N : Nm} {k : Nat} {c : Int} {x : Nat} : x ∈ (addn N k c).map Prod.fst ↔ x ∈ N.map Prod.fst ∨ x = k := by
  induction N with
  | nil => simp [addn]
  | cons p N ih =>
    rw [addn]
    by_cases h : p.1 = k
    · rw [if_pos h, List.map_cons, List.map_cons, List.mem_cons, List.mem_cons, h]
      constructor
      · rintro (e | e)
        · exact .inr e
        · exact .inl (.inr e)
      · rintro ((e | e) | e)
        · exact .inl e
        · exact .inr e
        · exact .inl e
    · rw [if_neg h, List.map_cons, List.mem_cons, ih, List.map_cons, List.mem_cons]
      constructor
      · rintro (e | e | e)
        · exact .inl (.inl e)
        · exact .inl (.inr e)
        · exact .inr e
      · rintro ((e | e) | e)
        · exact .inl e
        · exact .inr (.inl e)
        · exact .inr (.inr e)
theorem addn_nd : ∀ {N : Nm} {k : Nat} {c : Int}, nd N → nd (addn N k c)
  | [], k, c, _ => by simp [nd, addn]
  | p :: N, k, c, h => by
    unfold nd at h
    rw [List.map_cons, List.nodup_cons] at h
    rw [addn]
    by_cases e : p.1 = k
    · rw [if_pos e]
      unfold nd
      rw [List.map_cons, List.nodup_cons, ← e]
      exact h
    · rw [if_neg e]
      unfold nd
      rw [List.map_cons, List.nodup_cons]
      refine ⟨fun z => ?_, addn_nd (N := N) h.2⟩
      rcases addn_keys.mp z with z | z
      · exact h.1 z
      · exact e z
theorem addn_len (N : Nm) (k : Nat) (c : Int) : (addn N k c).length ≤ N.length + 1 := by
  induction N with
  | nil => simp [addn]
  | cons p N ih =>
    rw [addn]
    split
    · simp
    · simp; exact ih
/-- keys at most B -/
def kB (N : Nm) (B : Nat) : Prop := ∀ p ∈ N, p.1 ≤ B
theorem addn_kB {N : Nm} {k B : Nat} {c : Int} (h : kB N B) (hk : k ≤ B) : kB (addn N k c) B := fun p hp => by
  have := addn_keys.mp (List.mem_map.mpr ⟨p, hp, rfl⟩)
  rcases this with e | e
  · obtain ⟨q, hq, e⟩ := List.mem_map.mp e
    rw [← e]; exact h q hq
  · rw [e]; exact hk
theorem nd_len {N : Nm} {B : Nat} (hn : nd N) (h : kB N B) : N.length ≤ B + 1 := by
  have := List.Nodup.length_le_of_subset hn (l₂ := List.range (B + 1)) (fun x hx => by
    obtain ⟨q, hq, e⟩ := List.mem_map.mp hx
    rw [← e]
    exact List.mem_range.mpr (by have := h q hq; omega))
  rw [List.length_map, List.length_range] at this
  exact this
end PLW
end
section
set_option Elab.async false
set_option linter.all false
set_option maxRecDepth 100000
set_option maxHeartbeats 2000000
namespace PLW
open PySem PySem.Spec PyProof.Rows L2 Evl RZ
open PL PySem.W
/-! dicts that are no longer written are frozen; walks over them -/
def tFz (td : TE) : TE := fun σ H Q => td σ H fun x H1 => ∃ d u, x = .ref d ∧ H1 d = some u ∧ Mut (some u) ∧ ∀ o, Q x (upd H1 d (.frz o u))
theorem pe_fz {X : Cx} {e : Expr} {te : TE} (h : PE X e te) : PE X e (tFz te) := by
  refine ⟨fun pins s σ H Q I hw => thn (h.run pins s σ H _ I hw) fun v s1 ⟨x, H1, I1, r, d, u, ex, hd, mu, q⟩ => ?_⟩
  obtain ⟨o, I2⟩ := I1.lock hd mu
  exact ⟨x, _, I2, r, q o⟩
def rD (N : Nm) : Rl := fun H v => ∃ d o, v = .ref d ∧ H d = some (.frz o (.dK (dkv N)))
theorem rD_ex {N : Nm} {H H' : Hp} {v : V} (e : Ex H H') : rD N H v → rD N H' v := fun ⟨d, o, ev, h⟩ => ⟨d, o, ev, e _ _ h⟩
def EvD (te : TE) (σ : L2.St) (H : Hp) (G : Nm → Prop) : Prop := ∀ H1, Ex H H1 → ∀ Q : VK, (∀ d N H2, H1 d = none → Ex H1 H2 → H2 d = some (.dK (dkv N)) → G N → Q (.ref d) H2) → te σ H1 Q
def spD (pre : List V → Hp → (Nm → Prop) → Prop) : Sp := fun vs H Q _ => ∃ G, pre vs H G ∧ ∀ d N H2, H d = none → Ex H H2 → H2 d = some (.dK (dkv N)) → G N → Q (.ref d) H2
section
variable {K : PySem.W.Frag} {σ : L2.St} {H H' : Hp} {ta tb te tl td ty : TE} {v x y z : V} {D : Ends} {tz tu : TS} {g : TG} {ι κ : Type} {R : ι → Rl} {S : κ → Rl} {is : List ι} {i : Nat} {G : Nm → Prop} {N : Nm}
theorem evd_call {pre : List V → Hp → (Nm → Prop) → Prop} {vs : List V} {t : TA} (h : EvA t σ H vs) (hs : ∀ H1, Ex H H1 → pre (vs ++ []) H1 G) : EvD (tCall (spD pre) [] E0 t) σ H G := fun H1 e Q q =>
  h H1 e _ fun H2 e2 => ⟨G, hs H2 (e.trans e2), fun d N H3 hd e3 h3 hg => q d N H3 (fresh_back e2 hd) (e2.trans e3) h3 hg⟩
theorem evd_callP {pre : List V → Hp → (Nm → Prop) → Prop} {P : List V → Hp → Prop} {t : TA} (h : ∀ H1, Ex H H1 → ∀ Q : List V → Hp → Prop, (∀ vs H2, Ex H1 H2 → P vs H2 → Q vs H2) → t σ H1 Q) (hs : ∀ vs H1, Ex H H1 → P vs H1 → pre (vs ++ []) H1 G) : EvD (tCall (spD pre) [] E0 t) σ H G := fun H1 e Q q =>
  h H1 e _ fun vs H2 e2 hP => ⟨G, hs vs H2 (e.trans e2) hP, fun d N H3 hd e3 h3 hg => q d N H3 (fresh_back e2 hd) (e2.trans e3) h3 hg⟩
theorem evp_fz (h : EvD te σ H G) : EvP (tFz te) σ H fun H v => ∃ N, G N ∧ rD N H v := fun H1 e Q q =>
  h H1 e _ fun d N H2 hd e2 h2 hg => ⟨d, _, rfl, h2, trivial, fun o => q _ _ (Ex.mut e2 hd) ⟨N, hg, d, o, rfl, upd_same⟩⟩
/-- a loop fed by a source -/
theorem for_feeds {J : It} {St : Hp → Prop} (fd : Feeds J St R is) (Pv : Nat → L2.St → Hp → Prop) (h0 : Pv 0 σ H) (hl : ∀ i σ' H', i ≤ is.length → Pv i σ' H' → St H')
    (hs : ∀ i k x σ' H1 H', is[i]? = some k → Ex H1 H' → R k H' x → Pv i σ' H1 → g x σ' H' fun σ2 H2 => tu { D with nx := Pv (i + 1), ct := Pv (i + 1), bk := D.nx } σ2 H2) (hd : ∀ σ' H', Pv is.length σ' H' → D.nx σ' H') :
    ∃ W : Nat → Nat → L2.St → Hp → Prop, (∃ m, W 0 m σ H) ∧ ∀ i m σ H, W i m σ H →
      (J.stop i H ∧ D.nx σ H) ∨ (J.go i H ∧ ∃ N : L2.St → Hp → Prop, (∀ σ' H', N σ' H' → ∃ m', m' < m ∧ W (i + 1) m' σ' H') ∧ ∀ x H', J.yld i H x H' → g x σ H' fun σ2 H2 => tu { D with nx := N, ct := N, bk := D.nx } σ2 H2) := by
  refine ⟨fun i m σ H => m = is.length - i ∧ i ≤ is.length ∧ Pv i σ H, ⟨is.length, by simp, Nat.zero_le _, h0⟩, ?_⟩
  rintro i m σ H ⟨rfl, hi, p⟩
  have st := hl i σ H hi p
  by_cases hlt : i < is.length
  · have hk := List.getElem?_eq_getElem hlt
    refine .inr ⟨fd.go i H st hlt, Pv (i + 1), fun σ' H' p' => ⟨is.length - (i + 1), by omega, rfl, hlt, p'⟩, fun x H' y => ?_⟩
    obtain ⟨e, r⟩ := fd.yld i H x H' st y _ hk
    exact hs i _ x σ H H' hk e r p
  · have hi : i = is.length := by omega
    subst hi
    exact .inl ⟨fd.stop H st, hd σ H p⟩
theorem feeds_items {d : Addr} {o : Obj} : Feeds (Iti d o (dkv N)) (fun H => H d = some (.frz o (.dK (dkv N)))) (fun (p : Nat × Int) H v => ∃ T, v = .ref T ∧ H T = some (.tup [.int (p.1 : Int), .int p.2])) N where
  go := fun i H h hi => ⟨h, by unfold dkv; rw [List.length_map]; exact hi⟩
  yld := fun i H x H' h ⟨T, k, v, hk, ex, hT, eH⟩ p hp => by
    subst eH
    refine ⟨Ex.new hT, T, ex, ?_⟩
    unfold dkv at hk
    rw [List.getElem?_map, hp] at hk
    have := Option.some.inj hk
    rw [upd_same, ← (Prod.mk.inj this).1, ← (Prod.mk.inj this).2]
    rfl
  stop := fun H h => ⟨h, by unfold dkv; rw [List.length_map]; exact Nat.le_refl _⟩
theorem feeds_keys {d : Addr} {o : Obj} : Feeds (Itk d o (dkv N)) (fun H => H d = some (.frz o (.dK (dkv N)))) (fun (p : Nat × Int) => rNat p.1) N where
  go := fun i H h hi => ⟨h, by unfold dkv; rw [List.length_map]; exact hi⟩
  yld := fun i H x H' h ⟨eH, k, v, hk, ex⟩ p hp => by
    subst eH
    refine ⟨Ex.refl _, ?_⟩
    unfold dkv at hk
    rw [List.getElem?_map, hp] at hk
    have := Option.some.inj hk
    show x = V.int (p.1 : Int)
    rw [ex, ← (Prod.mk.inj this).1]
    rfl
  stop := fun H h => ⟨h, by unfold dkv; rw [List.length_map]; exact Nat.le_refl _⟩
theorem ei_items (h : EvP td σ H (rD N)) : EvI (iItems td) σ H (fun (p : Nat × Int) H v => ∃ T, v = .ref T ∧ H T = some (.tup [.int (p.1 : Int), .int p.2])) N := fun H1 e Rr q =>
  h H1 e _ fun v H2 e2 ⟨d, o, ev, hd⟩ => ⟨d, o, dkv N, ev, hd, q _ H2 _ e2 hd (fun _ _ x c => x _ _ c) feeds_items⟩
theorem ei_keys (h : EvP td σ H (rD N)) : EvI (iKeys td) σ H (fun (p : Nat × Int) => rNat p.1) N := fun H1 e Rr q =>
  h H1 e _ fun v H2 e2 ⟨d, o, ev, hd⟩ => ⟨d, o, ev, .inl ⟨dkv N, hd, q _ H2 _ e2 hd (fun _ _ x c => x _ _ c) feeds_keys⟩⟩
/-- for k, v in d.items(), d new -/
theorem s_forFz (h : EvD te σ H G) (k : ∀ d o N H1, H d = none → Ex H H1 → H1 d = some (.frz o (.dK (dkv N))) → G N → ∃ Pv : Nat → L2.St → Hp → Prop, Pv 0 σ H1 ∧ (∀ i σ' H', i ≤ N.length → Pv i σ' H' → H' d = some (.frz o (.dK (dkv N)))) ∧
      (∀ i p T σ' H2 H', N[i]? = some p → Ex H2 H' → H' T = some (.tup [.int (p.1 : Int), .int p.2]) → Pv i σ' H2 → g (.ref T) σ' H' fun σ2 H3 => tu { D with nx := Pv (i + 1), ct := Pv (i + 1), bk := D.nx } σ2 H3) ∧ ∀ σ' H', Pv N.length σ' H' → D.nx σ' H') :
    tFor (iItems (tFz te)) g tu D σ H :=
  h H (Ex.refl H) _ fun d N H1 hd e h1 hg => ⟨d, _, rfl, h1, trivial, fun o => by
    obtain ⟨Pv, a, b, c, f⟩ := k d o N (upd H1 d (.frz o (.dK (dkv N)))) hd (Ex.mut e hd) upd_same hg
    exact ⟨d, o, dkv N, rfl, upd_same, for_feeds feeds_items Pv a b (fun i p x σ' H2 H' hp e2 ⟨T, ex, hT⟩ hv => by rw [ex]; exact c i p T σ' H2 H' hp e2 hT hv) f⟩⟩
/-- .., d a name's -/
theorem s_forFzV {d : Addr} (hσ : σ[i]? = some (some (.ref d))) (hd : H d = some (.dK (dkv N))) (k : ∀ o, ∃ Pv : Nat → L2.St → Hp → Prop, Pv 0 σ (upd H d (.frz o (.dK (dkv N)))) ∧ (∀ i σ' H', i ≤ N.length → Pv i σ' H' → H' d = some (.frz o (.dK (dkv N)))) ∧
      (∀ i p T σ' H2 H', N[i]? = some p → Ex H2 H' → H' T = some (.tup [.int (p.1 : Int), .int p.2]) → Pv i σ' H2 → g (.ref T) σ' H' fun σ2 H3 => tu { D with nx := Pv (i + 1), ct := Pv (i + 1), bk := D.nx } σ2 H3) ∧ ∀ σ' H', Pv N.length σ' H' → D.nx σ' H') :
    tFor (iItems (tFz (tVar i))) g tu D σ H := ⟨_, hσ, d, _, rfl, hd, trivial, fun o => by
    obtain ⟨Pv, a, b, c, f⟩ := k o
    exact ⟨d, o, dkv N, rfl, upd_same, for_feeds feeds_items Pv a b (fun i p x σ' H2 H' hp e2 ⟨T, ex, hT⟩ hv => by rw [ex]; exact c i p T σ' H2 H' hp e2 hT hv) f⟩⟩
theorem sz_dkv (h : N.length < 100000) : (dkv N).length < sizeLine := by unfold dkv; rw [List.length_map]; exact sz_lt h
/-- d[k] = d.get(k, 0) + c, d at hand -/
theorem dput_at {d : Addr} {k : Nat} {c : Int} (hd : H d = some (.dK (dkv N))) (hn : nd N) (hl : N.length < 100000) : DPut H d (.int (k : Int)) (.int ((gv N k).getD 0 + c)) (upd H d (.dK (dkv (addn N k c)))) := by
  rw [← dkv_put hn]
  exact DPut.k (k := Sum.inl (k : Int)) hd (sz_dkv hl)
theorem dget_at {d : Addr} {k : Nat} (hd : H d = some (.dK (dkv N))) : DGet H d (.int (k : Int)) ((gv N k).map V.int) := by
  rw [← dkv_val]
  exact DGet.k (k := Sum.inl (k : Int)) hd
theorem dget_fz {d : Addr} {o : Obj} {k : Nat} (hd : H d = some (.frz o (.dK (dkv N)))) : DGet H d (.int (k : Int)) ((gv N k).map V.int) := by
  rw [← dkv_val]
  exact .inl ⟨dkv N, Sum.inl (k : Int), .inr ⟨o, hd⟩, rfl, rfl⟩
theorem ev_get0 {d : Addr} {k : Nat} (hd : ∀ H1, Ex H H1 → H1 d = some (.dK (dkv N))) (h1 : Ev td σ H (.ref d)) (h2 : Ev ty σ H (.int (k : Int))) (h3 : Ev te σ H (.int 0)) : Ev (tDGet2 td ty te) σ H (.int ((gv N k).getD 0)) := fun H1 e Q q =>
  h1 H1 e _ fun H2 e2 => ⟨d, rfl, .inl ⟨_, .inl (hd H2 (e.trans e2))⟩, h2 H2 (e.trans e2) _ fun H3 e3 => h3 H3 ((e.trans e2).trans e3) _ fun H4 e4 => ⟨_, dget_at (hd H4 (((e.trans e2).trans e3).trans e4)), by
    have := q H4 ((e2.trans e3).trans e4)
    cases h : gv N k with
    | none => rw [h] at this; exact this
    | some a => rw [h] at this; exact this⟩⟩
theorem ev_getF {k : Nat} {a : Int} (h1 : EvP td σ H (rD N)) (h2 : Ev ty σ H (.int (k : Int))) (h3 : gv N k = some a) : Ev (tDGet td ty) σ H (.int a) := fun H1 e Q q =>
  h1 H1 e _ fun v H2 e2 ⟨d, o, ev, hd⟩ => h2 H2 (e.trans e2) _ fun H3 e3 => ⟨d, .int a, ev, by have := dget_fz (k := k) (e3 _ _ hd); rw [h3] at this; exact this, q H3 (e2.trans e3)⟩
theorem ev_getK {d : Addr} {k : Nat} {a : Int} (hd : ∀ H1, Ex H H1 → H1 d = some (.dK (dkv N))) (h1 : Ev td σ H (.ref d)) (h2 : Ev ty σ H (.int (k : Int))) (h3 : gv N k = some a) : Ev (tDGet td ty) σ H (.int a) := fun H1 e Q q =>
  h1 H1 e _ fun H2 e2 => h2 H2 (e.trans e2) _ fun H3 e3 => ⟨d, .int a, rfl, by have := dget_at (k := k) (hd H3 ((e.trans e2).trans e3)); rw [h3] at this; exact this, q H3 (e2.trans e3)⟩
/-- d[k] = d.get(k, 0) + .., as a statement -/
theorem s_dputA {tv : TE} {d : Addr} {k : Nat} {c : Int} (hd : H d = some (.dK (dkv N))) (hn : nd N) (hl : N.length < 100000) (hv : Ev tv σ H (.int ((gv N k).getD 0 + c))) (h1 : Ev td σ H (.ref d)) (h2 : Ev ty σ H (.int (k : Int)))
    (q : ∀ H1, Ex H H1 → D.nx σ (upd H1 d (.dK (dkv (addn N k c))))) : sDPut td ty tv D σ H :=
  hv H (Ex.refl H) _ fun H1 e1 => h1 H1 e1 _ fun H2 e2 => h2 H2 (e1.trans e2) _ fun H3 e3 => ⟨d, _, rfl, dput_at (((e1.trans e2).trans e3) _ _ hd) hn hl, q H3 ((e1.trans e2).trans e3)⟩
theorem q_dputA {tv : TE} {d : Addr} {k : Nat} {c : Int} (hd : H d = some (.dK (dkv N))) (hn : nd N) (hl : N.length < 100000) (hv : Ev tv σ H (.int ((gv N k).getD 0 + c))) (h1 : Ev td σ H (.ref d)) (h2 : Ev ty σ H (.int (k : Int)))
    (q : ∀ H1, Ex H H1 → tz D σ (upd H1 d (.dK (dkv (addn N k c))))) : tSeq (sDPut td ty tv) tz D σ H := s_dputA (D := { D with nx := tz D }) hd hn hl hv h1 h2 q
/-- {0: 1} -/
theorem evd_one (h1 : G [(0, 1)]) : EvD (tDisp [(tC (.int 0), tC (.int 1))]) σ H G := fun H1 e Q q p hp => ⟨upd_same, [(Sum.inl 0, .int 1)], rfl, (show (1 : Nat) ≤ 15 by decide), q p [(0, 1)] _ hp (by
  have : upd (upd H1 p (.dK [])) p (.dK (mergeK [] [(Sum.inl 0, V.int 1)])) = upd H1 p (.dK (dkv [(0, 1)])) := by
    funext b
    unfold upd
    by_cases c : b = p
    · subst c; simp; rfl
    · simp [c]
  rw [this]
  exact Ex.new hp) upd_same h1⟩
theorem evd_new (h1 : G []) : EvD tDNewK σ H G := fun H1 e Q q p hp => q p [] _ hp (Ex.new hp) upd_same h1
/-- the dict's comprehension, its keys new ones -/
theorem evd_dc {wi : TI} {g : TG} {t : TT} {tk tv : TE} {vs : List Nat} {f : ι → Bool} {key : ι → Nat} {u : ι → Int} (hi : EvI wi σ H R is) (hnd : (is.map key).Nodup) (hz : is.length ≤ 40000) (gm : ∀ v σ H Q Q', (∀ σ' H', Q σ' H' → Q' σ' H') → g v σ H Q → g v σ H Q')
    (ht : ∀ i x H1, Ex H H1 → i ∈ is → R i H1 x → g x (wipe σ vs) H1 fun σ2 H2 => H2 = H1 ∧ wipe σ2 vs = wipe σ vs ∧ EvT t σ2 H1 (f i) ∧ (f i = true → Ev tk σ2 H1 (.int (key i : Int)) ∧ Ev tv σ2 H1 (.int (u i)))) (hG : G ((is.filter f).map fun i => (key i, u i))) :
    EvD (tDc wi g t tk tv vs) σ H G := fun H0 e0 Q q =>
  hi H0 e0 _ fun J H1 St e1 st stE fd Dl hD => by
    let NN : Nat → Nm := fun i => ((is.take i).filter f).map fun i => (key i, u i)
    let W : Nat → Hp → Prop := fun i H' => i ≤ is.length ∧ Ex H1 H' ∧ H' Dl = some (.dK (dkv (NN i)))
    have fl : ∀ i, (NN i).length ≤ i := fun i => by
      show (((is.take i).filter f).map _).length ≤ i
      rw [List.length_map]
      exact Nat.le_trans (List.length_filter_le _ _) (List.length_take_le _ _)
    refine ⟨fun i m H' => m = is.length - i ∧ W i H', ⟨is.length, by simp, Nat.zero_le _, Ex.new hD, upd_same⟩, ?_⟩
    rintro i m H' ⟨rfl, hle, e2, hxs⟩
    have stH := stE _ _ e2 st
    by_cases hlt : i < is.length
    · have hk : is[i]? = some is[i] := List.getElem?_eq_getElem hlt
      refine .inr ⟨fd.go i H' stH hlt, W (i + 1), fun H'' w => ⟨is.length - (i + 1), by omega, rfl, w⟩, fun x H'' hy => ?_⟩
      obtain ⟨e3, hR⟩ := fd.yld i H' x H'' stH hy _ hk
      refine gm _ _ _ _ _ ?_ (ht _ x H'' (((e0.trans e1).trans e2).trans e3) (List.getElem_mem hlt) hR)
      rintro σ2 H2 ⟨rfl, hw, hT, hE⟩
      refine ⟨hw, hT _ (Ex.refl _) _ fun H3 e4 => ?_⟩
      have tk' : is.take (i + 1) = is.take i ++ [is[i]] := by rw [List.take_succ, hk]; rfl
      cases hf : f is[i] with
      | true =>
        show tk σ2 H3 _
        obtain ⟨hE1, hE2⟩ := hE hf
        refine hE1 H3 e4 _ fun H4 e5 => hE2 H4 (e4.trans e5) _ fun H5 e6 => ?_
        have e7 := ((e3.trans e4).trans e5).trans e6
        have hN : NN (i + 1) = NN i ++ [(key is[i], u is[i])] := by
          show ((is.take (i + 1)).filter f).map _ = ((is.take i).filter f).map _ ++ _
          rw [tk', List.filter_append, List.map_append, List.filter_cons, if_pos hf]
          rfl
        have hnew : ∀ p ∈ NN i, p.1 ≠ key is[i] := fun p hp => by
          obtain ⟨j, hj, rfl⟩ := List.mem_map.mp hp
          have hj2 := (List.mem_filter.mp hj).1
          obtain ⟨a, ha, rfl⟩ := List.getElem_of_mem hj2
          have ha2 : a < i := by rw [List.length_take] at ha; omega
          intro hh
          rw [List.getElem_take] at hh
          have h3 := List.pairwise_iff_getElem.mp hnd a i (by rw [List.length_map]; omega) (by rw [List.length_map]; omega) ha2
          rw [List.getElem_map, List.getElem_map] at h3
          exact h3 hh
        refine ⟨dkv (NN i), Sum.inl (key is[i] : Int), rfl, e7 _ _ hxs, sz_dkv (by have := fl i; omega), hlt, Ex.mut (e2.trans e7) hD, ?_⟩
        rw [hN]
        have h5 : putK (dkv (NN i)) (Sum.inl (key is[i] : Int)) (V.int (u is[i])) = dkv (NN i ++ [(key is[i], u is[i])]) := by
          unfold putK
          rw [dkv_any, if_neg (by rw [List.any_eq_true]; rintro ⟨p, hp, z⟩; exact hnew p hp (of_decide_eq_true z))]
          unfold dkv
          rw [List.map_append]
          rfl
        rw [h5]
        exact upd_same
      | false =>
        show W (i + 1) H3
        have e6 := e3.trans e4
        refine ⟨hlt, e2.trans e6, ?_⟩
        have hN : NN (i + 1) = NN i := by
          show ((is.take (i + 1)).filter f).map _ = ((is.take i).filter f).map _
          rw [tk', List.filter_append, List.map_append, List.filter_cons, if_neg (by rw [hf]; decide)]
          show _ ++ [] = _
          rw [List.append_nil]
        rw [hN]
        exact e6 _ _ hxs
    · have hi : i = is.length := by omega
      subst hi
      refine .inl ⟨fd.stop H' stH, q Dl _ H' (fresh_back e1 hD) (e1.trans e2) hxs ?_⟩
      show G (((is.take is.length).filter f).map _)
      rw [List.take_length]
      exact hG
end
end PLW
end
section
set_option Elab.async false
set_option linter.all false
set_option maxRecDepth 100000
set_option maxHeartbeats 4000000
namespace PLW
open PySem PySem.Spec PyProof.Rows L2 Evl RZ
open PL PySem.W
/-! (0,) * n -/
theorem tup_mul_one (l : Addr) (its : Array Value) (n : Nat) (dd : Option Addr) (sl : Array (Option Value)) (u : Tok) :
    Meets (Builtin.«tuple.__mul__» ⟨[.ref l, .int 1 u], []⟩) (fun _ R s => s.heap.get? l = some { cls := .type "tuple", dict := dd, data := .seq its n, slots := sl } ∧ R (.ok (.ret (Value.ref l))) s) :=
  .of_wp fun prog w A R s h => by
    obtain ⟨hp, g, d, tk, os⟩ := s
    obtain ⟨hl, h⟩ := h
    have f1 := AutoSeq1.idx_int
    have c0 : (decide ((1 : Int) < -(2 ^ 63)) || decide ((1 : Int) ≥ 2 ^ 63)) = false := by decide
    have c1 : (its.isEmpty || (1 : Int) == 1) = true := by simp
    wp_walk using wpAny_loadPart' hl
    repeat (first
      | (refine wpAny_ite_false (decide_eq_false (by rw [c0]; exact Bool.false_ne_true)) ?_; wp_walk using wpAny_loadPart' hl)
      | (refine wpAny_ite_true (decide_eq_true c1) ?_; wp_walk using wpAny_loadPart' hl))
    exact ⟨_, rfl, h⟩
def rRepZ (K : PySem.W.Frag) : R2 := fun x y H Q => ∃ l k xs, x = .ref l ∧ y = .int k ∧ SqT K H l xs ∧ xs ≠ [] ∧ 1 ≤ k ∧ k ≤ 1000 ∧ xs.length ≤ 1000 ∧ (k = 1 → Q (.ref l) H) ∧ (2 ≤ k → ∀ p, H p = none → Q (.ref p) (upd H p (.tup (List.replicate k.toNat xs).flatten)))
section
variable {X : Cx}
theorem op_repZ : OpR X (binaryOp .Mult) (rRepZ X.K) := by
  intro pins s σ H x y v u Q I rx ry h
  obtain ⟨l, k, xs, rfl, rfl, hT, hne, h1, h2, hz, q1, q2⟩ := h
  by_cases c : 2 ≤ k
  · exact op_repT pins s σ H _ _ v u Q I rx ry ⟨l, k, xs, rfl, rfl, hT, hne, c, h2, hz, q2 c⟩
  · obtain rfl : k = 1 := by omega
    cases rx
    obtain ⟨t, rfl⟩ := ry
    obtain ⟨its, r, ⟨⟨cls, dd, data, sl⟩, ho, hc, n, hd⟩, hs⟩ := I.tuple hT
    simp only at hc hd
    subst hc hd
    refine wpAny_binaryOp_repeat_ref (T := "tuple") (U := "int") (by decide) ⟨_, ho, rfl⟩ (fun s' => typeIs_int s' 1 t) noFill_tuple_mul F.fills_int_mul F.slot_int_rmul repeat_tuple F.slot_int_index.lookup
      (call_meets F.slot_int_rmul (typeIs_int s 1 t) F.entry_int_rmul (F.args_int_rmul_2 _ _) (int_rmul_tuple 1 t l its.toArray n dd sl)
        ⟨ho, rfl, ⟨_, ho, rfl⟩, call_meets F.slot_tuple_mul ⟨_, ho, rfl⟩ F.entry_tuple_mul (F.args_tuple_mul_2 _ _) (tup_mul_one l its.toArray n dd sl t) ⟨ho, ?_⟩⟩)
    exact ⟨.ref l, H, I, rfl, q1 rfl⟩
end
section
variable {K : PySem.W.Frag} {σ : L2.St} {H H' : Hp} {ta tb te tl td ty : TE}
theorem wV_rep (n : Nat) : (List.replicate n [V.int 0]).flatten = wV (List.replicate n 0) := by
  induction n with
  | zero => rfl
  | succ n ih => rw [List.replicate_succ, List.flatten_cons, ih, List.replicate_succ]; rfl
theorem evp_zeros {n : Nat} (h1 : 1 ≤ n) (h2 : n ≤ 1000) (h : Ev tb σ H (.int (n : Int))) : EvP (tOp (rRepZ K) (tTup (tCons (tC (.int 0)) tNil)) tb) σ H (rW K (List.replicate n 0)) := fun H1 e Q q =>
  eu_tup (σ := σ) (H := H) (ea_cons ev_c ea_nil) (show 1 ≤ 100000 by decide) H1 e _ fun p H2 hp e2 h3 => h H2 (e.trans e2) _ fun H3 e3 => ⟨p, n, [.int 0], rfl, rfl, st_of (e3 _ _ h3), by simp, by omega, by omega, by simp, fun c => by
    obtain rfl : n = 1 := by omega
    exact q _ H3 (e2.trans e3) ⟨p, rfl, st_of (e3 _ _ h3)⟩, fun c t ht => q _ _ ((e2.trans e3).trans (Ex.new ht)) ⟨t, rfl, by
      rw [Int.toNat_natCast, wV_rep]
      exact st_of upd_same⟩⟩
end
end PLW
end
section
set_option Elab.async false
set_option linter.all false
set_option maxRecDepth 100000
set_option maxHeartbeats 2000000
namespace PLW
open PySem PySem.Spec PyProof.Rows L2 Evl RZ
open PL PySem.W
theorem nn_small {n d : Nat} (h1 : 1 ≤ n) (h4 : n ≤ 4) (hd : d ≤ 100) : nn n d ≤ 176851 := by
  have hT : ∀ {a b : Nat}, a ≤ b → Te a ≤ Te b := fun {a b} h => by
    induction h with
    | refl => exact Nat.le_refl _
    | step _ ih => exact Nat.le_trans ih (by rw [Te_succ]; omega)
  have e : n = 1 ∨ n = 2 ∨ n = 3 ∨ n = 4 := by omega
  rcases e with rfl | rfl | rfl | rfl
  · rw [nn1]; omega
  · rw [nn2]; omega
  · rw [nn3]
    have := T_mono (show d + 2 ≤ 102 by omega)
    have e : T 102 = 5151 := by decide +kernel
    omega
  · rw [nn4]
    have := hT (show d + 3 ≤ 103 by omega)
    have e : Te 103 = 176851 := by decide +kernel
    omega
section
variable {K : PySem.W.Frag} {σ : L2.St} {H H' : Hp} {ta tb te tl td ty : TE} {D : Ends} {tz : TS} {G : Nm → Prop} {i j : Nat}
theorem s_asgD (h : EvD te σ H G) (k : ∀ d N H1, H d = none → Ex H H1 → H1 d = some (.dK (dkv N)) → G N → D.nx (σ.set i (some (.ref d))) H1) : tAsg te (gName i) D σ H := h H (Ex.refl H) _ k
theorem q_asgD (h : EvD te σ H G) (k : ∀ d N H1, H d = none → Ex H H1 → H1 d = some (.dK (dkv N)) → G N → tz D (σ.set i (some (.ref d))) H1) : tSeq (tAsg te (gName i)) tz D σ H := s_asgD (D := { D with nx := tz D }) h k
theorem s_retD (h : EvD te σ H G) (k : ∀ d N H1, H d = none → Ex H H1 → H1 d = some (.dK (dkv N)) → G N → D.rt (.ref d) H1) : tRet te D σ H := h H (Ex.refl H) _ k
theorem q_parD {te1 te2 : TE} {v : V} (h1 : Ev te1 σ H v) (h2 : EvD te2 σ H G) (k : ∀ d N H1, H d = none → Ex H H1 → H1 d = some (.dK (dkv N)) → G N → tz D ((σ.set i (some v)).set j (some (.ref d))) H1) : tSeq (tPar i j (tCons te1 (tCons te2 tNil))) tz D σ H :=
  h1 H (Ex.refl H) _ fun H1 e1 => h2 H1 e1 _ fun d N H2 hd e2 hN hg => ⟨_, _, rfl, k d N H2 (fresh_back e1 hd) (e1.trans e2) hN hg⟩
def rDictD : List V → Hp → VK → Prop := fun xs H Q => ∃ (a : Addr) (kvs : List (Key × V)), xs = [.ref a] ∧ Rd H a (.dK kvs) ∧ ∀ p, H p = none → Q (.ref p) (upd H p (.dK kvs))
theorem evd_copy {d : Addr} {N : Nm} (h : Ev te σ H (.ref d)) (hd : ∀ H1, Ex H H1 → H1 d = some (.dK (dkv N))) : EvD (tCB rDictD (tCons te tNil)) σ H (fun M => M = N) := fun H1 e Q q =>
  h H1 e _ fun H2 e2 => ⟨d, dkv N, rfl, .inl (hd H2 (e.trans e2)), fun p hp => q p N _ (fresh_back e2 hp) (e2.trans (Ex.new hp)) upd_same rfl⟩
end
def Apart (ms : List (List Nat)) : Prop := ∀ (j k : Nat) (y x : List Nat), j < k → ms[j]? = some y → ms[k]? = some x → ∀ i, y.getD i 0 = 0 ∨ x.getD i 0 = 0
theorem addAll_snoc (K L : Nm) (p : Nat × Int) : addAll K (L ++ [p]) = addn (addAll K L) p.1 p.2 := by
  unfold addAll
  rw [List.foldl_append]
  rfl
theorem addAll_nd {K : Nm} (h : nd K) : ∀ L : Nm, nd (addAll K L) := fun L => by
  unfold addAll
  induction L generalizing K with
  | nil => exact h
  | cons p L ih => exact ih (addn_nd h)
theorem addAll_kB {K : Nm} {B : Nat} (h : kB K B) : ∀ L : Nm, kB L B → kB (addAll K L) B := fun L hL => by
  unfold addAll
  induction L generalizing K with
  | nil => exact h
  | cons p L ih => exact ih (addn_kB h (hL p (by simp))) (fun q hq => hL q (List.mem_cons_of_mem _ hq))
def sumsW (ms : List (List Nat)) : Nat := (ms.map List.sum).sum
theorem sumsW_snoc (ms : List (List Nat)) (x : List Nat) : sumsW (ms ++ [x]) = sumsW ms + x.sum := by simp [sumsW]
theorem sumsW_take (ms : List (List Nat)) (j : Nat) : sumsW (ms.take j) ≤ sumsW ms := by
  have : sumsW ms = sumsW (ms.take j) + sumsW (ms.drop j) := by
    unfold sumsW
    rw [← List.sum_append_nat, ← List.map_append, List.take_append_drop]
  omega
theorem sum_mem {ms : List (List Nat)} {x : List Nat} (h : x ∈ ms) : x.sum ≤ sumsW ms := by
  induction ms with
  | nil => simp at h
  | cons y ms ih =>
    show x.sum ≤ y.sum + sumsW ms
    rcases List.mem_cons.mp h with e | e
    · subst e; omega
    · have := ih e; omega
theorem nsum_filter (n d : Nat) (N : Nm) : ((N.filter fun p => decide (p.1 ≤ d)).map fun p => p.2 * ((nn n (d - p.1) : Nat) : Int)).sum = nsum n N d := by
  unfold nsum
  induction N with
  | nil => rfl
  | cons p N ih =>
    rw [List.map_cons, List.sum_cons, ← ih, List.filter_cons]
    unfold term
    by_cases h : p.1 ≤ d
    · rw [if_pos (decide_eq_true h), if_pos h, List.map_cons, List.sum_cons]
    · rw [if_neg (by simpa using h), if_neg h, Int.zero_add]
section
variable {P : Program} {w : World} {K : PySem.W.Frag} {mg : Str → Option Value} {base : Heap}
def sp_apart_numerator (K : PySem.W.Frag) : Sp := spD fun vs H G => ∃ (ms : List (List Nat)) (n : Nat) (v : V), vs = [v] ∧ rTs K (rW K) ms H v ∧ (∀ x ∈ ms, x.length = n) ∧ Apart ms ∧ sumsW ms ≤ 1000 ∧ G = fun N => Num n ms N ∧ nd N ∧ kB N (sumsW ms)
abbrev N_apart_numerator : List Str := ["members", "found", "member", "size", "later", "degree", "number"]
theorem sc_apart_numerator : FnScope N_apart_numerator ["members"] (defScope s_apart_numerator) := ⟨rfl, rfl, rfl, by decide +kernel, rfl, by decide +kernel, by decide +kernel⟩
theorem has_apart_numerator (T : Tx K mg) : Has P w K mg base "apart_numerator" ["members"] 1 (sp_apart_numerator K) := by
  obtain ⟨fd, F⟩ := T.fn_apart_numerator
  refine ⟨⟨fd, F.ok sc_apart_numerator (fun vs H Q E h => ?_) (fun cdv A outer s H vs Q E hr h => ?_), F.bindsN fun _ _ _ _ _ _ us hl => match us, hl with | [_], _ => rfl⟩, F.kp, T.g_apart_numerator⟩
  · obtain ⟨R, ⟨ms, n, v, rfl, _⟩, _⟩ := h; rfl
  · obtain ⟨G, ⟨ms, n, v, rfl, ⟨a, vs, rfl, ha, pd⟩, hx, hap, hsz, rfl⟩, k⟩ := h
    refine ⟨_, PSs.nox (pss_cons (ps_set (i := 1) sc_apart_numerator.nd rfl (Or.inl rfl) (pe_disp (pps_cons pe_int pe_int pps_nil) rfl rfl (by simp) (by decide))) (pss_cons (ps_for PassesOwn.never rfl (pi_tup (pv 0)) (pg_name (i := 2) sc_apart_numerator.nd rfl (Or.inl rfl)) (pss_cons (ps_par (i := 3) (j := 4) (by rfl) sc_apart_numerator.nd rfl rfl (by decide) rfl rfl (pa_cons (pe_callB (cr_sumT rfl) (by rfl) T.sum_ (by decide +kernel) (pa_cons (pv 2) pa_nil)) (pa_cons (pe_callTy call_dictD (by rfl) T.dict_ (by decide +kernel) (pa_cons (pv 1) pa_nil)) pa_nil)) (by rfl)) (pss_cons (ps_for PassesOwn.never rfl (pi_items (pe_fz (pv 1))) (pg_tup rfl (pgs_cons (pg_name (i := 5) sc_apart_numerator.nd rfl (Or.inl rfl)) (pgs_cons (pg_name (i := 6) sc_apart_numerator.nd rfl (Or.inl rfl)) pgs_nil))) (pss_one (ps_dput (hu_of hr) (pv 4) (pe_op op_add (pv 5) (pv 3)) (pe_op op_sub (pe_dget2 (hu_of hr) (pv 4) (pe_op op_add (pv 5) (pv 3)) pe_int ⟨rfl, rfl, rfl, rfl⟩) (pv 6)) rfl))) (pss_one (ps_set (i := 1) sc_apart_numerator.nd rfl (Or.inl rfl) (pv 4)))))) (pss_one (ps_ret (pv 1))))), ?_⟩
    refine q_asgD (G := fun N => N = [(0, 1)]) (evd_one rfl) (fun d0 N0 H1 hd0 e1 h1 hN0 => ?_)
    subst hN0
    refine q_forT (a := a) (xs := vs) (ev_var rfl) (ex_t e1 ha) (fun j σ' H' => ∃ d N x1 x2 x3 x4 x5, σ' = [some (.ref a), some (.ref d), x1, x2, x3, x4, x5] ∧ H d = none ∧ Ex H H' ∧ H' d = some (.dK (dkv N)) ∧ nd N ∧ Num n (ms.take j) N ∧ kB N (sumsW (ms.take j)))
      (fun H2 e2 => ⟨d0, [(0, 1)], none, none, none, none, none, rfl, hd0, e1.trans e2, e2 _ _ h1, by simp [nd], num_nil n, fun p hp => by simp at hp; subst hp; exact Nat.zero_le _⟩)
      (fun j σ' H' _ ⟨d, N, x1, x2, x3, x4, x5, _, _, e, _⟩ => ex_t e ha) ?_ ?_
    · rintro j u σ' H' hju ⟨d, N, x1, x2, x3, x4, x5, rfl, hd, e, hN, hnd, hnum, hkb⟩
      obtain ⟨x, hjx, b, rfl, hb⟩ := (pd.keep (rW_stb K) (Kp.ex e)).get hju
      have hxm := List.mem_of_getElem? hjx
      have htk : ms.take (j + 1) = ms.take j ++ [x] := by rw [List.take_succ, hjx]; rfl
      have hst := sumsW_take ms (j + 1)
      rw [htk, sumsW_snoc] at hst
      refine q_parD (v := .int (x.sum : Int)) (ev_sumT (ev_var rfl) hb) (evd_copy (N := N) (ev_var rfl) (fun H1 e => e _ _ hN)) (fun d2 M H2 hd2 e2 h2 hM => ?_)
      rw [hM] at h2
      have hne : d2 ≠ d := fun z => by rw [z, hN] at hd2; cases hd2
      have hd2H : H d2 = none := fresh_back e hd2
      refine s_forFzV (D := { nx := _, bk := _, ct := _, rt := _ }) (i := 1) (d := d) (N := N) rfl (e2 _ _ hN) (fun o => ⟨fun i σ'' H'' => ∃ y1 y2, σ'' = [some (.ref a), some (.ref d), some (.ref b), some (.int (x.sum : Int)), some (.ref d2), y1, y2] ∧ Ex H H'' ∧ H'' d = some (.frz o (.dK (dkv N))) ∧ H'' d2 = some (.dK (dkv (addAll N ((N.take i).map fun p => (p.1 + x.sum, -p.2))))), ?_, fun i σ'' H'' _ ⟨_, _, _, _, h, _⟩ => h, ?_, ?_⟩)
      · exact ⟨x4, x5, rfl, Ex.mut (e.trans e2) hd, upd_same, by rw [upd_ne hne]; exact h2⟩
      · rintro i p t σ'' H2' H3 hip e3 ht ⟨y1, y2, rfl, ea, hf, hl⟩
        refine g_tup2 (st_of ht) ?_
        have hpm := List.mem_of_getElem? hip
        have hkb2 : kB (addAll N ((N.take i).map fun p => (p.1 + x.sum, -p.2))) (sumsW ms) := addAll_kB (fun q hq => by have := hkb q hq; omega) _ (fun q hq => by
          obtain ⟨r, hr, rfl⟩ := List.mem_map.mp hq
          have := hkb r (List.mem_of_mem_take hr)
          show r.1 + x.sum ≤ _
          omega)
        have hndA := addAll_nd hnd ((N.take i).map fun p => (p.1 + x.sum, -p.2))
        have hlen := nd_len hndA hkb2
        refine s_dputA (d := d2) (k := p.1 + x.sum) (c := -p.2) (e3 _ _ hl) hndA (by omega) (ev_is (ev_bin (ev_get0 (d := d2) (k := p.1 + x.sum) (fun H1 e => e _ _ (e3 _ _ hl)) (ev_var rfl) (ev_is (ev_bin (ev_var rfl) (ev_var rfl)) ?_) ev_c) (ev_var rfl)) ?_) (ev_var rfl) (ev_is (ev_bin (ev_var rfl) (ev_var rfl)) ?_) (fun H4 e4 => ?_)
        · rw [Int.natCast_add]
        · rw [Int.sub_eq_add_neg]
        · rw [Int.natCast_add]
        · refine ⟨some (.int (p.1 : Int)), some (.int p.2), rfl, Ex.mut ((ea.trans e3).trans e4) hd2H, by rw [upd_ne (Ne.symm hne)]; exact e4 _ _ (e3 _ _ hf), ?_⟩
          rw [upd_same, List.take_succ, hip]
          show _ = some (HO.dK (dkv (addAll N (((N.take i) ++ [p]).map fun p => (p.1 + x.sum, -p.2)))))
          rw [List.map_append, List.map_singleton, addAll_snoc]
      · rintro σ'' H'' ⟨y1, y2, rfl, ea, hf, hl⟩
        rw [List.take_length] at hl
        refine s_asg (v := .ref d2) (ev_var rfl) (fun H3 e3 => ⟨d2, _, _, _, _, _, _, rfl, hd2H, ea.trans e3, e3 _ _ hl, addAll_nd hnd _, ?_, ?_⟩)
        · rw [htk]
          exact apart_step hnum (hx x hxm) (fun y hy => hx y (List.mem_of_mem_take hy)) (fun y hy i => by
            obtain ⟨c, hc, rfl⟩ := List.getElem_of_mem hy
            have hcj : c < j := by rw [List.length_take] at hc; omega
            rw [List.getElem_take]
            exact hap c j _ x hcj (List.getElem?_eq_getElem (by have := (List.getElem?_eq_some_iff.mp hjx).1; omega)) hjx i)
        · rw [htk, sumsW_snoc]
          exact addAll_kB (fun q hq => by have := hkb q hq; omega) _ (fun q hq => by
            obtain ⟨r, hr, rfl⟩ := List.mem_map.mp hq
            have := hkb r hr
            show r.1 + x.sum ≤ _
            omega)
    · rintro σ' H' ⟨d, N, x1, x2, x3, x4, x5, rfl, hd, e, hN, hnd, hnum, hkb⟩
      rw [pd.1, List.take_length] at hnum hkb
      exact s_ret (v := .ref d) (ev_var rfl) (fun H3 e3 => k d N H3 hd (e.trans e3) (e3 _ _ hN) ⟨hnum, hnd, hkb⟩)
def sp_left_count : Sp := spR fun vs H R => ∃ (n d : Nat) (N : Nm) (v : V), vs = [.int (n : Int), v, .int (d : Int)] ∧ 1 ≤ n ∧ n ≤ 4 ∧ d ≤ 100 ∧ rD N H v ∧ N.length ≤ 1000 ∧ R = rInt (nsum n N d)
abbrev N_left_count : List Str := ["letters", "numerator_told", "degree", "parts", "at", "number", "rest"]
theorem sc_left_count : FnScope N_left_count ["letters", "numerator_told", "degree"] (defScope s_left_count) := ⟨rfl, rfl, rfl, by decide +kernel, rfl, by decide +kernel, by decide +kernel⟩
theorem has_left_count (T : Tx K mg) : Has P w K mg base "left_count" ["letters", "numerator_told", "degree"] 1 sp_left_count := by
  obtain ⟨fd, F⟩ := T.fn_left_count
  refine ⟨⟨fd, F.ok sc_left_count (fun vs H Q E h => ?_) (fun cdv A outer s H vs Q E hr h => ?_), F.bindsN fun _ _ _ _ _ _ us hl => match us, hl with | [_, _, _], _ => rfl⟩, F.kp, T.g_left_count⟩
  · obtain ⟨R, ⟨n, d, N, v, rfl, _⟩, _⟩ := h; rfl
  · obtain ⟨R, ⟨n, d, N, v, rfl, n1, n4, hd, hv, hN, rfl⟩, k⟩ := h
    refine ⟨_, PSs.nox (pss_cons (ps_setLc (i := 3) (own := [("at", 4), ("number", 5)]) rfl sc_left_count.nd rfl rfl (sw_true rfl rfl rfl (by decide +kernel)) (pi_items (pv 1)) (blkOk_by (own := [("at", 4), ("number", 5)]) (N := N_left_count) (sc := defScope s_left_count) (by decide +kernel)) (by intro _ _ _ _ _; refine pg_pair (K := K) (i := 4) (j := 5) ?_ ?_ ?_ ?_ ?_ ?_ ?_ ?_ ?_; exact rfl; exact rfl; exact sc_left_count.nd; exact rfl; exact rfl; all_goals first | exact .inl rfl | exact .inr rfl) (by intro _ _ _ _ _; exact pts_one (pt_cmpR op_le (pv 4) (pv 2) (nomark _))) (by intro _ _ _ _ _; exact (pe_tup (pa_cons (pv 5) (pa_cons (pe_op op_sub (pv 2) (pv 4)) pa_nil))))) (pss_one (ps_ret (pe_callB (cr_sum rfl) (by rfl) T.sum_ (by decide +kernel) (pa_cons (pe_lc (own := [("number", 5), ("rest", 6)]) rfl sc_left_count.nd (pi_list (pv 3)) (blkOk_by (own := [("number", 5), ("rest", 6)]) (N := N_left_count) (sc := defScope s_left_count) (by decide +kernel)) (by intro _ _ _ _ _; refine pg_pair (K := K) (i := 5) (j := 6) ?_ ?_ ?_ ?_ ?_ ?_ ?_ ?_ ?_; exact rfl; exact rfl; exact sc_left_count.nd; exact rfl; exact rfl; all_goals first | exact .inl rfl | exact .inr rfl) (fun _ _ _ _ _ => pts_nil) (by intro _ _ _ _ _; exact (pe_op op_mul (pv 5) (pe_comb (by rfl) T.comb (pa_cons (pe_op op_sub (pe_op op_add (pv 6) (pv 0)) pe_int) (pa_cons (pe_op op_sub (pv 0) pe_int) pa_nil)))))) pa_nil))))), ?_⟩
    refine q_asgP (Rr := rL K (rPI K) ((N.filter fun p => decide (p.1 ≤ d)).map fun p => (p.2, ((d - p.1 : Nat) : Int)))) (evp_lc (f := fun p : Nat × Int => decide (p.1 ≤ d)) (u := fun p : Nat × Int => (p.2, ((d - p.1 : Nat) : Int))) (ei_items (N := N) (evp_var rfl fun H1 e => rD_ex e hv)) rPI_stb (by omega) gm_tup2 ?_) (fun u H1 e1 hu => ?_)
    · rintro p x H1 e hm ⟨t, rfl, ht⟩
      refine g_tup2 (st_of ht) ⟨rfl, rfl, et_is (et_test (ev_cmp (ev_var rfl) (ev_var rfl))) (natle _ _), fun hp => evp_tup (ea_cons (ev_var rfl) (ea_cons (ev_is (ev_bin (ev_var rfl) (ev_var rfl)) ?_) ea_nil)) (show 2 ≤ 100000 by decide)⟩
      rw [Int.ofNat_sub (of_decide_eq_true hp)]
    · refine s_ret (v := .int (nsum n N d)) (ev_is (ev_sumL (evp_lc0 (K := K) (u := fun q : Int × Int => q.1 * ((nn n q.2.toNat : Nat) : Int)) (ei_list (R := rPI K) rPI_stb (evp_var rfl fun H2 e2 => rL_ex rPI_stb e2 hu)) rInt_stb ?_ gm_tup2 ?_)) ?_) (fun H2 e2 => k _ H2 (e1.trans e2) rfl)
      · rw [List.length_map]
        exact Nat.le_trans (List.length_filter_le _ _) (by omega)
      · rintro q x H2 e2 hm ⟨t, rfl, ht⟩
        obtain ⟨p, hp, rfl⟩ := List.mem_map.mp hm
        have hc : ch ((d - p.1) + n - 1) (n - 1) = nn n (d - p.1) := by
          obtain ⟨m, rfl⟩ : ∃ m, n = m + 1 := ⟨n - 1, by omega⟩
          rw [show d - p.1 + (m + 1) - 1 = d - p.1 + m by omega, show m + 1 - 1 = m by omega, ← nn_ch]
        have hs := nn_small n1 n4 (show d - p.1 ≤ 100 by omega)
        have hs' : nn n ((p.2, ((d - p.1 : Nat) : Int)) : Int × Int).2.toNat = nn n (d - p.1) := rfl
        refine g_tup2 ht ⟨rfl, rfl, EvP.of (ev_mul (ev_var rfl) (ev_cb (ea_cons (ev_bin (ev_bin (ev_var rfl) (ev_var rfl)) ev_c) (ea_cons (ev_bin (ev_var rfl) ev_c) ea_nil)) fun H3 _ Q q => ⟨(d - p.1) + n - 1, n - 1, ?_, by omega, by omega, by rw [hc]; exact q⟩) (.inr ⟨by omega, by omega⟩))⟩
        rw [show ((d - p.1 : Nat) : Int) + (n : Int) - 1 = ((d - p.1 + n - 1 : Nat) : Int) by omega, show (n : Int) - 1 = ((n - 1 : Nat) : Int) by omega]
      · rw [List.map_map]
        congr 1
        rw [← nsum_filter]
        rfl
def sp_law_left : Sp := spR fun vs H R => ∃ (n d : Nat) (N : Nm) (v : V), vs = [.int (n : Int), v, .int (d : Int)] ∧ 1 ≤ n ∧ n ≤ 4 ∧ d ≤ 100 ∧ rD N H v ∧ nd N ∧ N.length ≤ 1000 ∧ R = rInt (nsum n N d)
abbrev N_law_left : List Str := ["_law_letters", "_law_told_here", "_law_degree", "_law_at"]
theorem sc_law_left : FnScope N_law_left ["_law_letters", "_law_told_here", "_law_degree"] (defScope s_law_left) := ⟨rfl, rfl, rfl, by decide +kernel, rfl, by decide +kernel, by decide +kernel⟩
theorem has_law_left (T : Tx K mg) : Has P w K mg base "_law_left" ["_law_letters", "_law_told_here", "_law_degree"] 3 sp_law_left := by
  have h_law_many : Has P w K mg base _ _ 2 sp_law_many := has_law_many T
  obtain ⟨fd, F⟩ := T.fn_law_left
  refine ⟨⟨fd, F.ok sc_law_left (fun vs H Q E h => ?_) (fun cdv A outer s H vs Q E hr h => ?_), F.bindsN fun _ _ _ _ _ _ us hl => match us, hl with | [_, _, _], _ => rfl⟩, F.kp, T.g_law_left⟩
  · obtain ⟨R, ⟨n, d, N, v, rfl, _⟩, _⟩ := h; rfl
  · obtain ⟨R, ⟨n, d, N, v, rfl, n1, n4, hd, hv, hnd, hN, rfl⟩, k⟩ := h
    refine ⟨_, PSs.nox (pss_one (ps_ret (pe_callB (cr_sum rfl) (by rfl) T.sum_ (by decide +kernel) (pa_cons (pe_lc (own := [("_law_at", 3)]) rfl sc_law_left.nd (pi_keys (pv 1)) (blkOk_by (own := [("_law_at", 3)]) (N := N_law_left) (sc := defScope s_law_left) (by decide +kernel)) (by intro _ _ _ _ _; refine pg_nm (i := 3) ?_ ?_ ?_ ?_; exact sc_law_left.nd; exact rfl; all_goals first | exact .inl rfl | exact .inr rfl) (fun _ _ _ _ _ => pts_nil) (by intro _ _ _ _ _; exact (pe_op op_mul (pe_dget (hu_of hr) (pv 1) (pv 3) (fun _ _ => rfl)) (pe_h h_law_many (hr.mono (by decide)) pass0 (pa_cons (pv 0) (pa_cons (pe_op op_sub (pv 2) (pv 3)) pa_nil)))))) pa_nil)))), ?_⟩
    refine s_ret (v := .int (nsum n N d)) (ev_is (ev_sumL (evp_lc0 (K := K) (u := fun p : Nat × Int => term n d p) (ei_keys (N := N) (evp_var rfl fun H1 e => rD_ex e hv)) rInt_stb (by omega) gm_name ?_)) rfl) (fun H2 e2 => k _ H2 e2 rfl)
    intro p x H1 e hm hx
    have hx2 : x = V.int (p.1 : Int) := hx
    subst hx2
    have hs := nn_small n1 n4 (show d - p.1 ≤ 100 by omega)
    refine ⟨rfl, rfl, EvP.of (ev_is (ev_mul (j := if p.1 ≤ d then ((nn n (d - p.1) : Nat) : Int) else 0) (ev_getF (N := N) (k := p.1) (a := p.2) (evp_var rfl fun H2 e2 => rD_ex (e.trans e2) hv) (ev_var rfl) (gv_mem hnd hm)) (evp_call (ea_cons (ev_var rfl) (ea_cons (ev_bin (ev_var rfl) (ev_var rfl)) ea_nil)) (SpP.of fun H3 _ => ⟨n, (d : Int) - (p.1 : Int), rfl, n1, by omega, by omega, ?_⟩)).ev (.inr ⟨by split <;> omega, by split <;> omega⟩)) ?_)⟩
    · unfold term
      by_cases c : p.1 ≤ d
      · rw [if_pos c, if_pos c]
      · rw [if_neg c, if_neg c, Int.mul_zero]
    · congr 1
      by_cases c : p.1 ≤ d
      · rw [if_pos c, if_pos (by omega), show ((d : Int) - (p.1 : Int)).toNat = d - p.1 by omega]
        rfl
      · rw [if_neg c, if_neg (by omega)]
        rfl
end
end PLW
end
section
set_option Elab.async false
set_option linter.all false
set_option maxRecDepth 100000
set_option maxHeartbeats 2000000
namespace PLW
open PySem PySem.Spec PyProof.Rows L2 Evl RZ
open PL PySem.W
section
variable {K : PySem.W.Frag} {σ : L2.St} {H H' : Hp} {ta tb te tl td ty : TE} {D : Ends} {tz : TS} {i j : Nat} {R R1 R2 : Rl}
/-- a pair of a thing and a known value -/
def rP1 (K : PySem.W.Frag) (R : Rl) (z : V) : Rl := fun H v => ∃ a p, v = .ref p ∧ SqT K H p [a, z] ∧ R H a
theorem rP1_stb (hs : Stb R) (z : V) : Stb (rP1 K R z) := fun k ⟨a, p, e, h1, h2⟩ => ⟨a, p, e, k.sqT h1, hs k h2⟩
theorem evp_pair1 {z : V} (h1 : EvP ta σ H R) (hs : Stb R) (h2 : Ev tb σ H z) : EvP (tTup (tCons ta (tCons tb tNil))) σ H (rP1 K R z) := fun H1 e Q q =>
  h1 H1 e _ fun a H2 e2 ha => h2 H2 (e.trans e2) _ fun H3 e3 => ⟨sz_of (show 2 ≤ 100000 by decide), fun p hp => q _ _ ((e2.trans e3).trans (Ex.new hp)) ⟨a, p, rfl, st_of upd_same, hs (Kp.ex (e3.trans (Ex.new hp))) ha⟩⟩
theorem s_appP {l : Addr} {xs : List V} (hl : H l = some (.lst xs)) (ha : Ev ta σ H (.ref l)) (h : EvP te σ H R) (hz : xs.length < 100000) (k : ∀ v H1, Ex H H1 → R H1 v → D.nx σ (upd H1 l (.lst (xs ++ [v])))) :
    tDrop (tBM K "list" rAppend ta (tCons te tNil)) D σ H := ha H (Ex.refl H) _ fun H1 e1 =>
  ⟨Or.inl ⟨rfl, xs, sq_of (e1 l _ hl)⟩, h H1 e1 _ fun v H2 e2 hv => ⟨l, xs, v, rfl, rfl, e2 l _ (e1 l _ hl), sz_lt hz, k v H2 (e1.trans e2) hv⟩⟩
theorem q_appP {l : Addr} {xs : List V} (hl : H l = some (.lst xs)) (ha : Ev ta σ H (.ref l)) (h : EvP te σ H R) (hz : xs.length < 100000) (k : ∀ v H1, Ex H H1 → R H1 v → tz D σ (upd H1 l (.lst (xs ++ [v])))) :
    tSeq (tDrop (tBM K "list" rAppend ta (tCons te tNil))) tz D σ H := s_appP (D := { D with nx := tz D }) hl ha h hz k
/-- a list of one -/
theorem evf_one {ι : Type} {S : ι → Rl} {x : ι} (h : EvP te σ H (S x)) (hs : ∀ i, Stb (S i)) : EvF (tLst (tCons te tNil)) σ H S [x] := fun H1 e Q q =>
  h H1 e _ fun v H2 e2 hv => ⟨sz_of (show 1 ≤ 100000 by decide), fun p hp => q p [v] _ (fresh_back e2 hp) (e2.trans (Ex.new hp)) upd_same (Pd.snoc (Pd.nil (R := S)) (hs x (Kp.ex (Ex.new hp)) hv))⟩
theorem evf_nil {ι : Type} {S : ι → Rl} : EvF (tLst tNil) σ H S [] := fun H1 e Q q => el_lst (σ := σ) (H := H) ea_nil (Nat.zero_le _) H1 e Q fun p H2 hp e2 h2 => q p [] H2 hp e2 h2 Pd.nil
theorem el_cat {a b : Addr} {xs ys : List V} (h1 : Ev ta σ H (.ref a)) (h2 : Ev tb σ H (.ref b)) (ha : H a = some (.lst xs)) (hb : H b = some (.lst ys)) (hl : xs.length + ys.length ≤ 100000) : EvL (tOp rCat ta tb) σ H (xs ++ ys) := fun H1 e Q q =>
  h1 H1 e _ fun H2 e2 => h2 H2 (e.trans e2) _ fun H3 e3 => ⟨a, b, xs, ys, rfl, rfl, ((e.trans e2).trans e3) _ _ ha, ((e.trans e2).trans e3) _ _ hb, sz_of hl, fun p hp => q p _ (fresh_back (e2.trans e3) hp) ((e2.trans e3).trans (Ex.new hp)) upd_same⟩
def rRow (K : PySem.W.Frag) (q : List Nat × Int) : Rl := rP1 K (rW K q.1) (.int q.2)
theorem rRow_stb (q : List Nat × Int) : Stb (rRow K q) := by
  intro H H' v k h
  exact rP1_stb (R := rW K q.1) (rW_stb K q.1) (.int q.2) k h
end
theorem joinw_zip : ∀ {x y : List Nat}, x.length = y.length → ((x.zip y).map fun p => max p.1 p.2) = joinw x y
  | [], [], _ => rfl
  | a :: x, b :: y, h => by
    rw [List.zip_cons_cons, List.map_cons, joinw_zip (x := x) (y := y) (by simpa using h)]
    rfl
theorem rows_len : ∀ (ms : List (List Nat)) (rows : Rows), (ms.foldl rowStep rows).length = rows.length * 2 ^ ms.length
  | [], rows => by simp
  | x :: ms, rows => by
    rw [List.foldl_cons, rows_len ms]
    unfold rowStep
    rw [List.length_append, List.length_map, List.length_cons, Nat.pow_succ, ← Nat.mul_two, Nat.mul_assoc, Nat.mul_comm 2]
theorem rows_wl {n : Nat} : ∀ {ms : List (List Nat)} {rows : Rows}, (∀ x ∈ ms, x.length = n) → (∀ q ∈ rows, q.1.length = n) → ∀ q ∈ ms.foldl rowStep rows, q.1.length = n
  | [], _, _, h => h
  | x :: ms, rows, hx, h => by
    rw [List.foldl_cons]
    refine rows_wl (fun y hy => hx y (by simp [hy])) (fun q hq => ?_)
    unfold rowStep at hq
    rcases List.mem_append.mp hq with e | e
    · exact h q e
    · obtain ⟨r, hr, rfl⟩ := List.mem_map.mp e
      show (joinw r.1 x).length = n
      rw [joinw_len (by rw [h r hr, hx x (by simp)])]
      exact h r hr
theorem num_len : ∀ (rows : Rows) (N : Nm), (rows.foldl (fun K q => addn K q.1.sum q.2) N).length ≤ N.length + rows.length
  | [], N => by simp
  | q :: rows, N => by
    rw [List.foldl_cons, List.length_cons]
    have h1 := num_len rows (addn N q.1.sum q.2)
    have h2 := addn_len N q.1.sum q.2
    omega
theorem num_nd : ∀ (rows : Rows) {N : Nm}, nd N → nd (rows.foldl (fun K q => addn K q.1.sum q.2) N)
  | [], N, h => h
  | q :: rows, N, h => by rw [List.foldl_cons]; exact num_nd rows (addn_nd h)
section
variable {P : Program} {w : World} {K : PySem.W.Frag} {mg : Str → Option Value} {base : Heap}
def sp_law_numerator (K : PySem.W.Frag) : Sp := spD fun vs H G => ∃ (ms : List (List Nat)) (n : Nat) (v : V), vs = [.int (n : Int), v] ∧ rL K (rW K) ms H v ∧ (∀ x ∈ ms, x.length = n) ∧ 1 ≤ n ∧ n ≤ 4 ∧ ms.length ≤ 9 ∧ G = fun N => Num n ms N ∧ nd N ∧ N.length ≤ 1000
abbrev N_law_numerator : List Str := ["_law_letters", "_law_members_here", "_law_rows", "_law_member", "_law_more", "_law_product", "_law_sign", "_law_found", "_law_left_here", "_law_right_here"]
theorem sc_law_numerator : FnScope N_law_numerator ["_law_letters", "_law_members_here"] (defScope s_law_numerator) := ⟨rfl, rfl, rfl, by decide +kernel, rfl, by decide +kernel, by decide +kernel⟩
theorem has_law_numerator (T : Tx K mg) : Has P w K mg base "_law_numerator" ["_law_letters", "_law_members_here"] 1 (sp_law_numerator K) := by
  obtain ⟨fd, F⟩ := T.fn_law_numerator
  refine ⟨⟨fd, F.ok sc_law_numerator (fun vs H Q E h => ?_) (fun cdv A outer s H vs Q E hr h => ?_), F.bindsN fun _ _ _ _ _ _ us hl => match us, hl with | [_, _], _ => rfl⟩, F.kp, T.g_law_numerator⟩
  · obtain ⟨R, ⟨ms, n, v, rfl, _⟩, _⟩ := h; rfl
  · obtain ⟨G, ⟨ms, n, v, rfl, ⟨a, vs, rfl, ha, pd⟩, hx, n1, n4, hms, rfl⟩, k⟩ := h
    refine ⟨_, PSs.nox (pss_cons (ps_set (i := 2) sc_law_numerator.nd rfl (Or.inl rfl) (pe_lst (pa_cons (pe_tup (pa_cons (pe_op op_repZ (pe_tup (pa_cons pe_int pa_nil)) (pv 0)) (pa_cons pe_int pa_nil))) pa_nil))) (pss_cons (ps_for PassesOwn.never rfl (pi_list (pv 1)) (pg_name (i := 3) sc_law_numerator.nd rfl (Or.inl rfl)) (pss_cons (ps_set (i := 4) sc_law_numerator.nd rfl (Or.inl rfl) (pe_lst pa_nil)) (pss_cons (ps_for PassesOwn.never rfl (pi_list (pv 2)) (pg_tup rfl (pgs_cons (pg_name (i := 5) sc_law_numerator.nd rfl (Or.inl rfl)) (pgs_cons (pg_name (i := 6) sc_law_numerator.nd rfl (Or.inl rfl)) pgs_nil))) (pss_one (ps_expr (pe_bm PySem.F.plainAttrs_list PySem.F.slot_list_append PySem.F.type_list_append mt_append (pv 4) (pa_cons (pe_tup (pa_cons (pe_tupleOf (by rfl) T.tuple_ (pe_lc (own := [("_law_left_here", 8), ("_law_right_here", 9)]) rfl sc_law_numerator.nd (pi_zipA (by rfl) T.zip_ (pa_cons (pv 5) (pa_cons (pv 3) pa_nil))) (blkOk_by (own := [("_law_left_here", 8), ("_law_right_here", 9)]) (N := N_law_numerator) (sc := defScope s_law_numerator) (by decide +kernel)) (by intro _ _ _ _ _; refine pg_pair (K := K) (i := 8) (j := 9) ?_ ?_ ?_ ?_ ?_ ?_ ?_ ?_ ?_; exact rfl; exact rfl; exact sc_law_numerator.nd; exact rfl; exact rfl; all_goals first | exact .inl rfl | exact .inr rfl) (fun _ _ _ _ _ => pts_nil) (by intro _ _ _ _ _; exact (pe_callB (call_max2 rfl) (by rfl) T.max_ (by decide +kernel) (pa_cons (pv 8) (pa_cons (pv 9) pa_nil)))))) (pa_cons (pe_op op_sub pe_int (pv 6)) pa_nil))) pa_nil))))) (pss_one (ps_set (i := 2) sc_law_numerator.nd rfl (Or.inl rfl) (pe_op op_cat (pv 2) (pv 4))))))) (pss_cons (ps_set (i := 7) sc_law_numerator.nd rfl (Or.inl rfl) pe_dnewK) (pss_cons (ps_for PassesOwn.never rfl (pi_list (pv 2)) (pg_tup rfl (pgs_cons (pg_name (i := 5) sc_law_numerator.nd rfl (Or.inl rfl)) (pgs_cons (pg_name (i := 6) sc_law_numerator.nd rfl (Or.inl rfl)) pgs_nil))) (pss_one (ps_dput (hu_of hr) (pv 7) (pe_callB (cr_sumT rfl) (by rfl) T.sum_ (by decide +kernel) (pa_cons (pv 5) pa_nil)) (pe_op op_add (pe_dget2 (hu_of hr) (pv 7) (pe_callB (cr_sumT rfl) (by rfl) T.sum_ (by decide +kernel) (pa_cons (pv 5) pa_nil)) pe_int ⟨rfl, rfl, rfl, rfl⟩) (pv 6)) rfl))) (pss_one (ps_ret (pv 7))))))), ?_⟩
    let rws : Nat → Rows := fun j => (ms.take j).foldl rowStep [(List.replicate n 0, 1)]
    have rlen : ∀ j, (rws j).length ≤ 512 := fun j => by
      show ((ms.take j).foldl rowStep _).length ≤ 512
      rw [rows_len, List.length_singleton, Nat.one_mul]
      have : (ms.take j).length ≤ 9 := by rw [List.length_take]; omega
      exact Nat.le_trans (Nat.pow_le_pow_right (by decide) this) (by decide)
    have rwl : ∀ j, ∀ q ∈ rws j, q.1.length = n := fun j => rows_wl (fun x hxm => hx x (List.mem_of_mem_take hxm)) (fun q hq => by simp at hq; subst hq; simp)
    refine q_asgF (R := rRow K) (is := [(List.replicate n 0, 1)]) (evf_one (x := ((List.replicate n 0, 1) : List Nat × Int)) (evp_pair1 (evp_zeros n1 (by omega) (ev_var rfl)) (rW_stb K _) ev_c) rRow_stb) (fun r0 us0 H1 hr0 e1 h1 pd1 => ?_)
    refine q_forL (a := a) (xs := vs) (ev_var rfl) (ex_l e1 ha) (fun j σ' H' => ∃ r us x3 x4 x5 x6, σ' = [some (.int (n : Int)), some (.ref a), some (.ref r), x3, x4, x5, x6, none, none, none] ∧ Ex H H' ∧ H' r = some (.lst us) ∧ Pd (rRow K) H' us (rws j))
      (fun H2 e2 => ⟨r0, us0, none, none, none, none, rfl, e1.trans e2, e2 _ _ h1, pd1.keep rRow_stb (Kp.ex e2)⟩) (fun j σ' H' _ ⟨r, us, x3, x4, x5, x6, _, e, _⟩ => ex_l e ha) ?_ ?_
    · rintro j u σ' H' hju ⟨r, us, x3, x4, x5, x6, rfl, e, hr', pdr⟩
      obtain ⟨x, hjx, b, rfl, hb⟩ := (pd.keep (rW_stb K) (Kp.ex e)).get hju
      have hxm := hx x (List.mem_of_getElem? hjx)
      have hul : us.length ≤ 512 := by rw [pdr.1]; exact rlen j
      refine q_asgL (el_lst ea_nil (Nat.zero_le _)) (fun l H2 hl e2 h2 => ?_)
      have hne : l ≠ r := fun z => by rw [z, hr'] at hl; cases hl
      have hlH : H l = none := fresh_back e hl
      refine q_forL (a := r) (xs := us) (ev_var rfl) (sq_of (e2 _ _ hr')) (fun i σ'' H'' => ∃ ws y5 y6, σ'' = [some (.int (n : Int)), some (.ref a), some (.ref r), some (.ref b), some (.ref l), y5, y6, none, none, none] ∧ Ex H' H'' ∧ H'' l = some (.lst ws) ∧ Pd (rRow K) H'' ws (((rws j).take i).map fun q => (joinw q.1 x, -q.2)))
        (fun H3 e3 => ⟨[], x5, x6, rfl, e2.trans e3, e3 _ _ h2, Pd.nil⟩) (fun i σ'' H'' _ ⟨ws, y5, y6, _, e3, _⟩ => sq_of (e3 _ _ hr')) ?_ ?_
      · rintro i u σ'' H'' hiu ⟨ws, y5, y6, rfl, e3, h3, pdw⟩
        obtain ⟨q, hq, qa, qp, rfl, hqp, qw, rfl, hqw⟩ := (pdr.keep rRow_stb (Kp.ex e3)).get hiu
        have hqm := rwl j q (List.mem_of_getElem? hq)
        have hi : i < us.length := (List.getElem?_eq_some_iff.mp hiu).1
        have hwl : ws.length ≤ 512 := by rw [pdw.1, List.length_map, List.length_take]; omega
        refine g_tup2 hqp ?_
        refine s_appP (R := rRow K (joinw q.1 x, -q.2)) h3 (ev_var rfl) (evp_pair1 (R := rW K (joinw q.1 x)) (evp_tupleW (by
          rw [← joinw_zip (show q.1.length = x.length by rw [hqm, hxm])]
          refine evp_lc0 (u := fun p : Nat × Nat => max p.1 p.2) (S := rNat) (ei_zipT (is := q.1.zip x) (ea_cons (ev_var rfl) (ea_cons (ev_var rfl) ea_nil)) hqw (ex_t e3 hb) (zip_fst (by rw [hqm, hxm])) (zip_snd (by rw [hqm, hxm]))) rNat_stb (by rw [List.length_zip]; omega) gm_tup2 ?_
          rintro p y H4 e4 hp ⟨t, rfl, ht⟩
          refine g_tup2 (st_of ht) ⟨rfl, rfl, EvP.of (ev_is (ev_cb (ea_cons (ev_var rfl) (ea_cons (ev_var rfl) ea_nil)) fun H5 _ Q z => ⟨_, _, rfl, z⟩) ?_)⟩
          congr 1
          split <;> omega)) (rW_stb K _) (ev_is (ev_bin ev_c (ev_var rfl)) (by rw [Int.zero_sub]))) (by omega) (fun z H4 e4 hz => ?_)
        have htk : (rws j).take (i + 1) = (rws j).take i ++ [q] := by rw [List.take_succ, hq]; rfl
        refine ⟨ws ++ [z], _, _, rfl, Ex.mut (e3.trans e4) hl, upd_same, ?_⟩
        rw [htk, List.map_append, List.map_singleton]
        exact pd_app h3 e4 pdw rRow_stb hz
      · rintro σ'' H'' ⟨ws, y5, y6, rfl, e3, h3, pdw⟩
        rw [pdr.1, List.take_length] at pdw
        have hwl : ws.length ≤ 512 := by rw [pdw.1, List.length_map]; exact rlen j
        refine s_asgL (el_cat (ev_var rfl) (ev_var rfl) (e3 _ _ hr') h3 (by omega)) (fun p H4 hp e4 h4 => ⟨p, us ++ ws, some (.ref b), some (.ref l), y5, y6, rfl, (e.trans e3).trans e4, h4, ?_⟩)
        have htk : rws (j + 1) = rowStep (rws j) x := by
          show (ms.take (j + 1)).foldl rowStep _ = _
          rw [List.take_succ, hjx]
          show (ms.take j ++ [x]).foldl rowStep _ = _
          rw [List.foldl_append]
          rfl
        rw [htk]
        exact (pdr.keep rRow_stb (Kp.ex (e3.trans e4))).append (pdw.keep rRow_stb (Kp.ex e4))
    · rintro σ' H' ⟨r, us, x3, x4, x5, x6, rfl, e, hr', pdr⟩
      have hrw : rws vs.length = rowsOf n ms := by
        show (ms.take vs.length).foldl rowStep _ = _
        rw [pd.1, List.take_length]
        rfl
      have hrl := rlen vs.length
      rw [hrw] at pdr hrl
      refine q_asgD (G := fun N => N = []) (evd_new rfl) (fun d N H2 hd e2 h2 hN => ?_)
      subst hN
      have hdH : H d = none := fresh_back e hd
      have hne : d ≠ r := fun z => by rw [z, hr'] at hd; cases hd
      refine q_forL (a := r) (xs := us) (ev_var rfl) (sq_of (e2 _ _ hr')) (fun i σ'' H'' => ∃ y5 y6, σ'' = [some (.int (n : Int)), some (.ref a), some (.ref r), x3, x4, y5, y6, some (.ref d), none, none] ∧ Ex H' H'' ∧ H'' d = some (.dK (dkv (lawNum ((rowsOf n ms).take i)))))
        (fun H3 e3 => ⟨x5, x6, rfl, e2.trans e3, e3 _ _ h2⟩) (fun i σ'' H'' _ ⟨y5, y6, _, e3, _⟩ => sq_of (e3 _ _ hr')) ?_ ?_
      · rintro i u σ'' H'' hiu ⟨y5, y6, rfl, e3, h3⟩
        obtain ⟨q, hq, qa, qp, rfl, hqp, qw, rfl, hqw⟩ := (pdr.keep rRow_stb (Kp.ex e3)).get hiu
        refine g_tup2 hqp ?_
        have hnd : nd (lawNum ((rowsOf n ms).take i)) := num_nd _ (by simp [nd])
        have hnl := num_len ((rowsOf n ms).take i) []
        have htl : ((rowsOf n ms).take i).length ≤ 512 := by rw [List.length_take]; omega
        refine s_dputA (d := d) (k := q.1.sum) (c := q.2) h3 hnd (by unfold lawNum; simp at hnl; omega) (ev_bin (ev_get0 (d := d) (k := q.1.sum) (fun H1 e => e _ _ h3) (ev_var rfl) (ev_sumT (ev_var rfl) hqw) ev_c) (ev_var rfl)) (ev_var rfl) (ev_sumT (ev_var rfl) hqw) (fun H4 e4 => ⟨_, _, rfl, Ex.mut (e3.trans e4) hd, ?_⟩)
        rw [upd_same, List.take_succ, hq]
        show _ = some (HO.dK (dkv (lawNum ((rowsOf n ms).take i ++ [q]))))
        unfold lawNum
        rw [List.foldl_append]
        rfl
      · rintro σ'' H'' ⟨y5, y6, rfl, e3, h3⟩
        rw [pdr.1, List.take_length] at h3
        have hnl := num_len (rowsOf n ms) []
        exact s_ret (v := .ref d) (ev_var rfl) (fun H3 e4 => k d _ H3 hdH ((e.trans e3).trans e4) (e4 _ _ h3) ⟨lawNum_ok (rowsOf_ok hx), num_nd _ (by simp [nd]), by unfold lawNum; simp at hnl; omega⟩)
end
end PLW
end
section
set_option Elab.async false
set_option linter.all false
set_option maxRecDepth 100000
set_option maxHeartbeats 2000000
namespace PLW
open PySem PySem.Spec PyProof.Rows L2 Evl RZ
open PL PySem.W
/-! {one: True for one in products}: a dict of words, each once -/
def kT (m : List Nat) : List Key := m.map fun k : Nat => Sum.inl (k : Int)
theorem kT_kV (m : List Nat) : (kT m).map kV = wV m := by unfold kT wV; rw [List.map_map]; rfl
theorem kT_inj : ∀ {x y : List Nat}, kT x = kT y → x = y
  | [], [], _ => rfl
  | [], _ :: _, h => by simp [kT] at h
  | _ :: _, [], h => by simp [kT] at h
  | a :: x, b :: y, h => by
    have h1 : (Sum.inl (a : Int) : Key) :: kT x = Sum.inl (b : Int) :: kT y := h
    obtain ⟨h2, h3⟩ := List.cons.inj h1
    rw [kT_inj h3, Int.ofNat.inj (Sum.inl.inj h2)]
def put1 (L : List (List Nat)) (m : List Nat) : List (List Nat) := if m ∈ L then L else L ++ [m]
def uniq (ms : List (List Nat)) : List (List Nat) := ms.foldl put1 []
def kvT (L : List (List Nat)) : List (List Key × V) := L.map fun m => (kT m, V.bl true)
theorem kvT_put (L : List (List Nat)) (m : List Nat) : putK (kvT L) (kT m) (V.bl true) = kvT (put1 L m) := by
  have ha : ((kvT L).any fun kv => decide (kv.1 = kT m)) = true ↔ m ∈ L := by
    unfold kvT
    rw [List.any_map, List.any_eq_true]
    constructor
    · rintro ⟨y, hy, e⟩
      rw [← kT_inj (of_decide_eq_true e)]
      exact hy
    · intro h
      exact ⟨m, h, decide_eq_true rfl⟩
  unfold putK put1
  by_cases c : m ∈ L
  · rw [if_pos (ha.mpr c), if_pos c]
    unfold kvT
    rw [List.map_map]
    refine List.map_congr_left fun y _ => ?_
    show (if kT y = kT m then (kT y, V.bl true) else (kT y, V.bl true)) = _
    split <;> rfl
  · rw [if_neg (fun z => c (ha.mp z)), if_neg c]
    unfold kvT
    rw [List.map_append]
    rfl
theorem put1_mem {L : List (List Nat)} {m x : List Nat} : x ∈ put1 L m ↔ x ∈ L ∨ x = m := by
  unfold put1
  split
  · rename_i h
    constructor
    · exact .inl
    · rintro (e | e)
      · exact e
      · rw [e]; exact h
  · simp
theorem put1_nodup {L : List (List Nat)} {m : List Nat} (h : L.Nodup) : (put1 L m).Nodup := by
  unfold put1
  split
  · exact h
  · rename_i hm
    exact List.nodup_append.mpr ⟨h, by simp, fun a ha b hb e => hm (by simp at hb; rw [← hb, ← e]; exact ha)⟩
theorem uniq_fold : ∀ (ms L : List (List Nat)), L.Nodup → (ms.foldl put1 L).Nodup ∧ ∀ x, x ∈ ms.foldl put1 L ↔ x ∈ L ∨ x ∈ ms
  | [], L, h => ⟨h, by simp⟩
  | m :: ms, L, h => by
    obtain ⟨h1, h2⟩ := uniq_fold ms (put1 L m) (put1_nodup h)
    refine ⟨h1, fun x => ?_⟩
    rw [List.foldl_cons, h2, put1_mem, List.mem_cons]
    constructor
    · rintro ((e | e) | e)
      · exact .inl e
      · exact .inr (.inl e)
      · exact .inr (.inr e)
    · rintro (e | e | e)
      · exact .inl (.inl e)
      · exact .inl (.inr e)
      · exact .inr e
theorem uniq_nodup (ms : List (List Nat)) : (uniq ms).Nodup := (uniq_fold ms [] (by simp)).1
theorem uniq_mem {ms : List (List Nat)} {x : List Nat} : x ∈ uniq ms ↔ x ∈ ms := by
  have := (uniq_fold ms [] (by simp)).2 x
  unfold uniq
  simpa using this
theorem uniq_snoc (ms : List (List Nat)) (m : List Nat) : uniq (ms ++ [m]) = put1 (uniq ms) m := by unfold uniq; rw [List.foldl_append]; rfl
theorem uniq_len (ms : List (List Nat)) : (uniq ms).length ≤ ms.length := by
  have h : ∀ (ms L : List (List Nat)), (ms.foldl put1 L).length ≤ L.length + ms.length := by
    intro ms
    induction ms with
    | nil => intro L; simp
    | cons m ms ih =>
      intro L
      have h1 := ih (put1 L m)
      have h2 : (put1 L m).length ≤ L.length + 1 := by unfold put1; split <;> simp
      rw [List.foldl_cons, List.length_cons]
      omega
  have := h ms []
  simpa [uniq] using this
section
variable {X : Cx} {pins : List (Addr × Obj)} {σ : L2.St} {H : Hp} {s : Shared}
theorem key_keep {P : Program} {w : World} {h h' : Heap} {k : List Key} {a : Addr} (x : (tupleKind (mixKind P w)).is h k a) (e : ∀ o, h.get? a = some o → h'.get? a = some o) : (tupleKind (mixKind P w)).is h' k a := by
  obtain ⟨o, its, n, h1, h2⟩ := x
  exact ⟨o, its, n, e _ h1, h2⟩
theorem apartA {b N C : Nat} (hb : b < N) (hC : N + 1 ≤ C) : b ≠ C := by omega
theorem dict_goes_words (hc : X.calm = true) (hu : X.A.units < cLine) (I : Inv X pins σ H s) {its : Array Value} {xs : List V} {ms : List (List Nat)} (rv : Vals xs its.toList) (pd : Pd rWh H xs ms) (hz : ms.length < 50000) {x : Str} {pa pe pc : Pos} {j : Nat} {scope : Scope} {cl : List (Str × Addr)} {Q : VK} {ob : Obj} {fp : List Addr} {St : Nat → Heap → Prop}
    (hkind : scope.kind = .function) (hx : scope.names.lookup x = some .local) (hdb : (x == ("__debug__" : Str)) = false)
    (W : Goes X.prog X.w X.A (.Name x pa) s.heap.objs.size fp [s.heap.objs.size] its.size (fun i v _ => its[i]? = some v) St) (hfp : ∀ b ∈ fp, b < s.heap.objs.size + 1) (st0 : St 0 (s.heap.push ob))
    (q : ∀ D, H D = none → Q (.ref D) (upd H D (.dT (kvT (uniq ms))))) :
    DcGoes X.prog X.w X.A X.xe X.env scope cl (.Name x pa) [] (.Name x pe) (.Constant (.bool true) j pc) none (EP X pins σ Q) (.ref s.heap.objs.size) { s with heap := s.heap.push ob } := by
  refine ⟨_, fp, _, _, _, St, rfl, W, st0, fun D C s₃ hB hD => ?_⟩
  obtain ⟨⟨h₃, tk₃, rfl⟩, old, nD, nC, hDC, hnm⟩ := hB
  have nC' : (s.heap.objs.size + 1 : Nat) ≤ C := by
    have z : (s.heap.push ob).objs.size ≤ C := nC
    rw [Heap.size_push] at z
    exact z
  have nD' : (s.heap.objs.size + 1 : Nat) ≤ D := by
    have z : (s.heap.push ob).objs.size ≤ D := nD
    rw [Heap.size_push] at z
    exact z
  have hDn : H D = none := I.hok.fresh (by show s.heap.objs.size ≤ D; exact Nat.le_trans (Nat.le_succ _) nD')
  have hsys : (D == sysModules) = false := beq_eq_false_iff_ne.mpr (fun z => by
    have h1 := I.big
    rw [← z] at h1
    exact absurd h1 (Nat.not_lt.mpr (Nat.le_trans (Nat.le_succ _) nD')))
  have kxl : (compEnvC scope cl C X.env).kindOf x = some .local := lookup_relabel_local hx
  have hp : ((compEnvC scope cl C X.env).scope.kind == .class || ((compEnvC scope cl C X.env).scope.kind == .module && (compEnvC scope cl C X.env).locals != (compEnvC scope cl C X.env).globals)) = false := by
    show (scope.kind == .class || (scope.kind == .module && _)) = false
    rw [hkind]; rfl
  have kIs : ∀ {h' : Heap} {b : Addr} {k : List Key}, (∀ b o, s.heap.get? b = some o → h'.get? b = some o) → H b = some (.tup (k.map kV)) → (tupleKind (mixKind X.prog X.w)).is h' k b := fun k h => key_keep (key_of I.hok h) fun o e => k _ o e
  have hn : its.size = ms.length := by rw [← pd.1, rv.length]; simp
  refine ⟨fun i s₁ => ∃ h' tk m, s₁ = { s with heap := h', toks := tk } ∧ h'.Ns C m ∧ (∀ b o, s.heap.get? b = some o → h'.get? b = some o) ∧ ObjOk X.prog X.w H h' D (.dT (kvT (uniq (ms.take i)))),
    ⟨h₃, tk₃, _, rfl, hnm, fun b o e => old b o (Heap.get?_push_of_some _ e), ⟨Nat.zero_le _, hsys, [], .nil, _, #[], 0, hD, ⟨rfl, rfl, rfl⟩, rfl, rfl, List.nodup_nil⟩⟩, ?_, ?_, ?_⟩
  · rintro i s₁ h' tk ⟨h₄, tk₄, m, rfl, n₄, k₄, z, y, es, r, o, e1, e2, e3, e4⟩ hk' _
    have off : ∀ b : Addr, b ≠ s.heap.objs.size → b ∉ [s.heap.objs.size] := fun b hb hm => hb (List.mem_singleton.mp hm)
    exact ⟨h', tk, m, rfl, n₄.at' fun o e => hk' _ o (off _ (Nat.ne_of_gt (Nat.lt_of_lt_of_le (Nat.lt_succ_self _) nC'))) e, fun b o e => hk' b o (off _ (Nat.ne_of_lt (Heap.lt_size e))) (k₄ b o e),
      z, y, es, r, o, e1, e2, hk' _ _ (off _ (Nat.ne_of_gt (Nat.lt_of_lt_of_le (Nat.lt_succ_self _) nD'))) e3, e4⟩
  · rintro i v s₁ hi hv st ⟨h₄, tk₄, mm, rfl, n₄, k₄, z, y, es, r, o, e1, e2, e3, e4, e5, e6, e7⟩
    have hv' : its[i]? = some v := hv
    have hix : i < xs.length := by rw [rv.length]; simpa using hi
    obtain ⟨u, hu1, ru⟩ := Vals.get rv (List.getElem?_eq_getElem hix)
    have hvu : v = u := by
      have : its.toList[i]? = some v := by simpa using hv'
      rw [this] at hu1
      exact Option.some.inj hu1
    subst hvu
    obtain ⟨m, hm, a, ea, ha⟩ := pd.get (List.getElem?_eq_getElem hix)
    rw [ea] at ru
    obtain rfl : v = Value.ref a := ru
    refine wpAny_assign_Name (wpAny_storeName_local kxl n₄ (fun h₅ n₅ s₅ => ?_) hp)
    refine wpAny_tests_nil ?_
    show wpAny _ _ _ _ _ _
    rw [eval_Name _ _ _ hdb]
    refine wpAny_bind (wpAny_standAt (wpAny_loadName_local hkind kxl n₅ (v := .ref a) (if_pos rfl) ?_))
    have k₅ : ∀ b o, s.heap.get? b = some o → h₅.get? b = some o := fun b o e => s₅.extBut b o (apartA (Heap.lt_size e) nC') (k₄ b o e)
    have hD5 := s₅.extBut D _ hDC e3
    refine Constant_bool ?_
    have hkv : H a = some (.tup ((kT m).map kV)) := by rw [kT_kV]; exact ha
    have hal : ∀ {kvs : List (List Key × V)} {qs : List (List Key × Addr × Value)}, KT H kvs qs → ∀ p ∈ qs, (tupleKind (mixKind X.prog X.w)).is h₅ p.1 p.2.1 := fun {kvs qs} t => by
      induction t with
      | nil => intro p hp; exact absurd hp (by simp)
      | cons h _ ih =>
        intro p hp
        rcases List.mem_cons.mp hp with e | e
        · subst e
          have h2 := h.2.1
          rw [h.1] at h2
          exact kIs k₅ h2
        · exact ih p e
    have hlen : es.length ≤ sizeLine := by rw [← Paired.length r]; exact z
    refine wpAny_dictSet_heap (hsz := hlen) (knd := tupleKind (mixKind X.prog X.w)) (k := kT m) hu (kIs k₅ hkv) ⟨o, e1, e2, hD5, e4, e5, e6, hal r, e7⟩ fun h₆ dd' s₆ => ?_
    obtain ⟨o', es', ep', f1, f2, f3, f4, _, f5⟩ := dd'
    have htk : ms.take (i + 1) = ms.take i ++ [m] := by rw [List.take_succ, hm]; rfl
    have hkk : kvT (uniq (ms.take (i + 1))) = putK (kvT (uniq (ms.take i))) (kT m) (V.bl true) := by rw [kvT_put, htk, uniq_snoc]
    refine ⟨⟨h₆, _, _, rfl, n₅.at' fun o e => s₆.extBut _ o (Ne.symm hDC) e, fun b o e => s₆.extBut b o (apartA (Heap.lt_size e) nD') (k₅ b o e), ?_⟩, W.frame _ _ _ st fun b hb o e => s₆.extBut b o (fun c => ?_) (s₅.extBut b o (fun c => ?_) e)⟩
    · rw [hkk]
      refine ⟨?_, hsys, _, KT.put r (kT m) hkv rfl, o', es', ep', f1, f2, f3, f4, f5⟩
      rw [← hkk]
      unfold kvT
      rw [List.length_map]
      have h1 := uniq_len (ms.take (i + 1))
      rw [List.length_take] at h1
      exact Nat.le_of_lt (sz_lt (by omega))
    · rw [c] at hb
      have := hfp _ hb
      exact absurd this (Nat.not_lt.mpr nD')
    · rw [c] at hb
      have := hfp _ hb
      exact absurd this (Nat.not_lt.mpr nC')
  · rintro s₁ ⟨h₄, tk₄, m, rfl, n₄, k₄, z, y, es, r, o, e1, e2, e3, e4⟩
    refine ⟨m, n₄, fun h' hs' => ?_⟩
    rw [hn, List.take_length] at z r
    have nw : s.heap.objs.size ≤ D := Nat.le_trans (Nat.le_succ _) nD'
    refine ⟨.ref D, upd H D (.dT (kvT (uniq ms))), I.laid (fun b o e => hs'.extBut b o (apartA (Heap.lt_size e) nC') (k₄ b o e)) nw ⟨z, y, es, KT.keeps r fun c ys ec => ?_, o, e1, e2, hs'.extBut _ _ hDC e3, e4⟩, rfl, q D hDn⟩
    rw [upd_ne (fun z => by rw [z, hDn] at ec; cases ec)]
    exact ec
/-- the dict of a list's or tuple's words -/
def tDcW (K : PySem.W.Frag) (te : TE) : TE := fun σ H Q => te σ H fun v H1 => ∃ a xs ms, v = .ref a ∧ (SqL K H1 a xs ∨ SqT K H1 a xs) ∧ Pd rWh H1 xs ms ∧ ms.length < 50000 ∧ ∀ D, H1 D = none → Q (.ref D) (upd H1 D (.dT (kvT (uniq ms))))
theorem pe_dcW {x : Str} {pa pe pc pos : Pos} {j : Nat} {iter : Expr} {scope : Scope} {own : List (Str × Nat)} {te : TE} (hc : X.calm = true) (hu : X.A.units < cLine) (hi : PE X iter te) (ok : BlkOk X.N X.env.scope scope own) (hcell : ∀ y ∈ scope.names, y.2 ≠ .cell)
    (hx : scope.names.lookup x = some .local) (hdb : (x == ("__debug__" : Str)) = false) (hs : ∀ x, foldedSetIterable iter X.env x = pure x) :
    PE X (.DictComp (.Name x pe) (.Constant (.bool true) j pc) [⟨.Name x pa, iter, [], 0⟩] scope pos) (tDcW X.K te) := by
  refine ⟨fun pins s σ H Q I h => ?_⟩
  have hfree : ∀ y ∈ scope.names, y.2 = .free → ∃ c, X.env.cells.lookup y.1 = some c := fun y hy e => (ok.free y hy e).elim (fun k => I.ok.has _ (.inl k)) (fun k => I.ok.has _ (.inr k))
  refine DictComp_goes (closure_ok hfree) hcell ok.kind (fun y hy e => by rw [ok.uniq y hy, e]) (thn (hi.run pins s σ H _ I h) fun v s1 ⟨v', H1, I1, r1, a, xs, ms, ev, hseq, pd, hz, q⟩ => ?_) hs
  rw [ev] at r1
  obtain rfl : v = Value.ref a := r1
  rcases hseq with hl | ht
  · obtain ⟨its, rv, pl, hzl⟩ := I1.list hl
    have hlt : (a : Nat) < s1.heap.objs.size := by obtain ⟨o, ho, _⟩ := pl.isList; exact Heap.lt_size ho
    refine wpAny_pyIter_list pl.isList ?_
    refine dict_goes_words hc hu I1 (its := its.toArray) (by simpa using rv) pd hz ok.kind hx hdb (Goes.list (I1.ok.hd hc) s1.heap.objs.size a (Nat.ne_of_lt hlt) its.toArray) (fun b hb => ?_) ⟨⟨_, Heap.get?_push_size _ rfl, rfl, rfl⟩, pl.isList.push _⟩ q
    have hb' : b = s1.heap.objs.size ∨ b = a := by simpa using hb
    rcases hb' with e | e
    · rw [e]; exact Nat.lt_succ_self _
    · rw [e]; exact Nat.lt_succ_of_lt hlt
  · obtain ⟨its, rv, pl, hzl⟩ := I1.tuple ht
    have hlt : (a : Nat) < s1.heap.objs.size := by obtain ⟨o, ho, _⟩ := id pl; exact Heap.lt_size ho
    refine wpAny_pyIter_tuple pl ?_
    refine dict_goes_words hc hu I1 (its := its.toArray) (by simpa using rv) pd hz ok.kind hx hdb (Goes.tuple (I1.ok.hd hc) s1.heap.objs.size a (Nat.ne_of_lt hlt) its.toArray) (fun b hb => ?_) ⟨⟨_, Heap.get?_push_size _ rfl, rfl, rfl⟩, ?_⟩ q
    · have hb' : b = s1.heap.objs.size ∨ b = a := by simpa using hb
      rcases hb' with e | e
      · rw [e]; exact Nat.lt_succ_self _
      · rw [e]; exact Nat.lt_succ_of_lt hlt
    · obtain ⟨o, h1, h2⟩ := pl
      exact ⟨o, Heap.get?_push_of_some _ h1, h2⟩
end
end PLW
end
section
set_option Elab.async false
set_option linter.all false
set_option maxRecDepth 100000
set_option maxHeartbeats 2000000
namespace PLW
open PySem PySem.Spec PyProof.Rows L2 Evl RZ
open PL PySem.W
/-! sorted(dict of words, key=sum) -/
def tSrt (t : TA) : TE := fun σ H Q => t σ H fun vs H1 => ∃ d L, vs = [.ref d] ∧ H1 d = some (.dT (kvT L)) ∧ ∀ (p : Addr) (ys : List V) (L' : List (List Nat)), H1 p = none → L'.Perm L → L'.Pairwise (fun x y => x.sum ≤ y.sum) → Pd rWh H1 ys L' → Q (.ref p) (upd H1 p (.lst ys))
theorem kt_words {H : Hp} : ∀ {L : List (List Nat)} {ks : List (List Key × Addr × Value)}, KT H (kvT L) ks → ∃ bs : List (Addr × List Nat), bs.map Prod.fst = ks.map (fun x => x.2.1) ∧ bs.map Prod.snd = L ∧ ∀ b ∈ bs, H b.1 = some (.tup (wV b.2))
  | [], ks, r => by
    cases r
    exact ⟨[], rfl, rfl, by simp⟩
  | m :: L, ks, r => by
    have r' : KT H ((kT m, V.bl true) :: kvT L) ks := r
    cases r' with
    | @cons p q ps qs h t =>
      obtain ⟨bs, h1, h2, h3⟩ := kt_words (L := L) t
      refine ⟨(q.2.1, m) :: bs, by rw [List.map_cons, List.map_cons, h1], by rw [List.map_cons, h2], fun b hb => ?_⟩
      rcases List.mem_cons.mp hb with e | e
      · rw [e, ← kT_kV]
        exact h.2.1
      · exact h3 b e
theorem each_refs {H : Hp} : ∀ {bs : List (Addr × List Nat)}, (∀ b ∈ bs, H b.1 = some (.tup (wV b.2))) → EachIs (fun (u : Value) (b : Addr × List Nat) => u = Value.ref b.1 ∧ H b.1 = some (.tup (wV b.2))) (bs.map fun b => Value.ref b.1) bs
  | [], _ => .nil
  | b :: bs, h => .cons ⟨rfl, h b (by simp)⟩ (each_refs fun c hc => h c (List.mem_cons_of_mem _ hc))
theorem refs_each {H : Hp} : ∀ {us : List Value} {bs : List (Addr × List Nat)}, EachIs (fun (u : Value) (b : Addr × List Nat) => u = Value.ref b.1 ∧ H b.1 = some (.tup (wV b.2))) us bs → Vals (bs.map fun b => V.ref b.1) us ∧ Pd rWh H (bs.map fun b => V.ref b.1) (bs.map Prod.snd)
  | _, _, .nil => ⟨.nil, Pd.nil⟩
  | _, _, .cons (a := u) (b := b) (as := us) (bs := bs) ⟨h, w⟩ t => by
    obtain ⟨h1, h2⟩ := refs_each t
    refine ⟨.cons h h1, ?_⟩
    have := Pd.append (Pd.snoc (R := rWh) (H := H) (v := V.ref b.1) (i := b.2) Pd.nil ⟨b.1, rfl, w⟩) h2
    exact this
theorem acc_keys {P : Program} {w : World} {es : Array DictEntry} {ks : List (List Key × Addr × Value)} {acc : Array Value} (he : es.toList = ks.map (entryOfKey (tupleKind (mixKind P w)))) (hl : acc.size = es.size) (hx : ∀ (j : Nat) (v : Value), acc[j]? = some v → ∃ en : DictEntry, es[j]? = some en ∧ v = en.key) :
    acc.toList = ks.map fun x => Value.ref x.2.1 := by
  have l1 : es.size = ks.length := by rw [← Array.length_toList, he, List.length_map]
  refine List.ext_getElem (by rw [Array.length_toList, List.length_map, hl, l1]) fun j h1 h2 => ?_
  have hj : j < acc.size := by rw [← Array.length_toList]; exact h1
  obtain ⟨en, e1, e2⟩ := hx j acc[j] (Array.getElem?_eq_getElem hj)
  rw [Array.getElem_toList, e2, List.getElem_map]
  have e3 : es.toList[j]? = some en := by rw [Array.getElem?_toList]; exact e1
  rw [he, List.getElem?_map, List.getElem?_eq_getElem (by omega)] at e3
  rw [← Option.some.inj e3]
  rfl
section
variable {X : Cx} {pins : List (Addr × Obj)} {σ : L2.St} {H : Hp} {s : Shared}
theorem sum_key {prog : Program} {w : World} {A : Around} {h0 h : Heap} {tk : Nat} {t : Addr} {its : List Value} {m : List Nat} (hh : A.handled = none) (ht : h.IsTuple t its.toArray) (hi : IntsAre its (wI m)) (s : Shared) :
    wpAny (model prog w) A (call (.builtin "sum") [.ref t]) (KeyPure (.int ((m.sum : Nat) : Int)) { s with heap := h, toks := tk }) (fun _ _ => False) { s with heap := h, toks := tk } := by
  refine sum_tup (s := { s with heap := h, toks := tk }) hh ht hi fun h' tk' t' kp => ⟨h', tk', rfl, kp, ?_⟩
  rw [show (wI m).sum = ((m.sum : Nat) : Int) from sum_ints m]
  exact .int _ t'
theorem sorted_words (hc : X.calm = true) (hu : X.A.units + 64 < cLine) (I : Inv X pins σ H s) {d : Addr} {L : List (List Nat)} (hd : H d = some (.dT (kvT L))) {Q : VK}
    (q : ∀ (p : Addr) (ys : List V) (L' : List (List Nat)), H p = none → L'.Perm L → L'.Pairwise (fun x y => x.sum ≤ y.sum) → Pd rWh H ys L' → Q (.ref p) (upd H p (.lst ys))) :
    wpAny (model X.prog X.w) X.A (call (.builtin "sorted") [.ref d] [(Str.ofString "key", .builtin "sum")]) (EP X pins σ Q) X.xe s := by
  obtain ⟨z, hs, ks, pr, o, es, ep, ho, hx, hdt, he, hn⟩ := (show ObjOk X.prog X.w H s.heap d (.dT (kvT L)) from I.hok d _ hd)
  obtain ⟨bs, b1, b2, b3⟩ := kt_words pr
  have l1 : es.size = ks.length := by rw [← Array.length_toList, he, List.length_map]
  have l2 : (kvT L).length = ks.length := Paired.length pr
  have hbl : bs.length = ks.length := by
    have := congrArg List.length b1
    rw [List.length_map, List.length_map] at this
    exact this
  refine call_function_entry_kw kind_sorted plain_sorted entry_sorted (ksk_s1 _ _) ?_
  unfold Builtin.«sorted»
  refine wpAny_bind (m := checkCount "sorted" 1 1 _) (wpAny_pure ?_)
  refine wpAny_bind (kdu_collect (A := X.A.in1) (kdl_raw hs hx hdt) (I.ok.hd hc) ho (by omega) fun h' tk acc hk hacc => ?_)
  have hak := acc_keys he hacc.1 hacc.2
  have hab : acc.toList = bs.map fun b => Value.ref b.1 := by
    have e := congrArg (List.map Value.ref) b1
    rw [List.map_map, List.map_map] at e
    exact hak.trans e.symm
  have I1 : Inv X pins σ H { s with heap := h', toks := tk } := I.kept hk
  refine wpAny_bind (wpAny_newList ?_ (by rw [hab, List.length_map]; omega))
  have hoL : (h'.push (seqObj "list" acc.toList.toArray 0)).get? h'.objs.size = some (seqObj "list" (bs.map fun b => Value.ref b.1).toArray 0) := by rw [← hab]; exact Heap.get?_push_size _ rfl
  show wpAny _ _ _ _ _ { s with heap := h'.push (seqObj "list" acc.toList.toArray 0), toks := tk }
  refine wpAny_bind (wpAny_holding (list_sort_key_data (s := { s with heap := h'.push (seqObj "list" acc.toList.toArray 0), toks := tk }) (b := false) (f := .builtin "sum") (k := fun b : Addr × List Nat => .int ((b.2.sum : Nat) : Int)) hoL (each_refs b3) ?_ ?_ (by rw [hbl]; omega) ?_ ?_ (ksk_t4 "sum" _) ?_ ?_))
  · intro x hx y hy
    obtain ⟨_, _, rfl⟩ := List.mem_map.mp hx
    obtain ⟨_, _, rfl⟩ := List.mem_map.mp hy
    rfl
  · exact .inr fun x hx => by
      obtain ⟨_, _, rfl⟩ := List.mem_map.mp hx
      exact ⟨by simp, fun _ z => by cases z⟩
  · intro x _
    show X.A.units + 1 + 1 + 0 < cLine
    omega
  · unfold argsOk; kernel_rfl
  · rintro v b ⟨rfl, hb⟩ _ h tk' kp
    obtain ⟨its, rv, pl, _⟩ := I1.tuple (xs := wV b.2) (.inl (.inl hb))
    have hlt : b.1 < h'.objs.size := by obtain ⟨o, ho, _⟩ := id pl; exact Heap.lt_size ho
    have hne : b.1 ≠ h'.objs.size := Nat.ne_of_lt hlt
    refine sum_key (h0 := h) (its := its) (show X.A.in1.in1.handled = none from I.ok.hd hc) ?_ (by rw [wV_ints] at rv; exact rv.ints) _
    obtain ⟨o, p1, p2⟩ := pl
    exact ⟨o, kp _ _ hne (Heap.get?_push_of_some _ p1), p2⟩
  · intro out c h2 tk2 kp hout hlen heach
    have hse : bs.mergeSort (dataLe false fun b : Addr × List Nat => .int ((b.2.sum : Nat) : Int)) = bs.mergeSort (fun x y => decide (((x.2.sum : Nat) : Int) ≤ ((y.2.sum : Nat) : Int))) := by rw [dataLe_int]
    rw [hse] at heach
    generalize hcs : bs.mergeSort (fun x y => decide (((x.2.sum : Nat) : Int) ≤ ((y.2.sum : Nat) : Int))) = cs at *
    have hperm : cs.Perm bs := by rw [← hcs]; exact List.mergeSort_perm _ _
    have hpw : cs.Pairwise fun x y => decide (((x.2.sum : Nat) : Int) ≤ ((y.2.sum : Nat) : Int)) = true := by
      rw [← hcs]
      refine List.pairwise_mergeSort (fun x y u h1 h2 => ?_) (fun x y => ?_) _
      · exact decide_eq_true (Int.le_trans (of_decide_eq_true h1) (of_decide_eq_true h2))
      · rcases Int.le_total ((x.2.sum : Nat) : Int) ((y.2.sum : Nat) : Int) with c | c
        · simp only [decide_eq_true c, Bool.true_or]
        · simp only [decide_eq_true c, Bool.or_true]
    obtain ⟨r1, r2⟩ := refs_each heach
    have hnew : H h'.objs.size = none := I1.hok.fresh (Nat.le_refl _)
    refine wpAny_pure ⟨_, rfl, .ref h'.objs.size, upd H h'.objs.size (.lst (cs.map fun b => V.ref b.1)), I1.laid (t' := tk2) (fun b u e => kp b u (Nat.ne_of_lt (Heap.lt_size e)) (Heap.get?_push_of_some _ e)) (Nat.le_refl _) ⟨?_, out, c, r1, hout⟩, rfl, q _ _ _ hnew ?_ ?_ r2⟩
    · show (cs.map fun b => V.ref b.1).length ≤ sizeLine
      rw [List.length_map, hperm.length_eq]
      omega
    · rw [← b2]
      exact hperm.map _
    · rw [List.pairwise_map]
      exact hpw.imp fun {x y} h => by have := of_decide_eq_true h; omega
theorem pe_sortedSum {e : Expr} {t : TA} {p p2 kpos pos : Pos} (hc : X.calm = true) (hu : X.A.units + 64 < cLine) (hg : Gl X "sorted") (hm : X.mg "sorted" = none) (hg2 : Gl X "sum") (hm2 : X.mg "sum" = none) (ha : PA X [e] t)
    (he : backTo pos (starEach [e] X.env) = [(false, eval e X.env)] := by rfl) (hpl : (backTo pos (starEach [e] X.env)).any (·.1) = false := by rfl)
    (hall : (backToKw pos (keywordEach [⟨some "key", .Name "sum" p2, kpos⟩] X.env)).all (·.1.isSome) = true := by rfl) (hnone : (backToKw pos (keywordEach [⟨some "key", .Name "sum" p2, kpos⟩] X.env)).any (·.1.isNone) = false := by rfl)
    (hks : (backToKw pos (keywordEach [⟨some "key", .Name "sum" p2, kpos⟩] X.env)).filterMap (·.1) = [Str.ofString "key"] := by rfl) :
    PE X (.Call (.Name "sorted" p) [e] [⟨some "key", .Name "sum" p2, kpos⟩] pos) (tSrt t) := by
  refine ⟨fun pins s σ H Q I h => ?_⟩
  refine wpAny_Call_Name_kw (ld_blt I hg hm (by decide +kernel : bootBuiltins "sorted" = some (.builtin "sorted")) ?_)
  refine callWith_kw (thn (ha.run pos pins s σ H _ I h) fun us s1 ⟨vs, H1, I1, r1, d, L, ev, hd, q⟩ => ?_) he hpl hall hnone
  rw [hks]
  rw [ev] at r1
  obtain rfl := Vals.ref1 r1
  refine wpAny_evalAll_cons (wpAny_bind (ld_blt I1 hg2 hm2 (by decide +kernel : bootBuiltins "sum" = some (.builtin "sum")) (wpAny_bind (wpAny_standAt (wpAny_pure (wpAny_evalAll_nil ?_))))))
  exact sorted_words hc hu I1 hd q
end
end PLW
end
section
set_option Elab.async false
set_option linter.all false
set_option maxRecDepth 100000
set_option maxHeartbeats 2000000
namespace PLW
open PySem PySem.Spec PyProof.Rows L2 Evl RZ
open PL PySem.W
/-! the least of some words -/
def IsMin (ms : List (List Nat)) (x : List Nat) : Prop := x ∈ ms ∧ ∀ y ∈ ms, dv y x = true → y = x
structure Least (ms ls : List (List Nat)) : Prop where
  asc : ls.Pairwise leW
  nodup : ls.Nodup
  mem : ∀ x, x ∈ ls ↔ IsMin ms x
theorem Least.uniq {ms a b : List (List Nat)} (h1 : Least ms a) (h2 : Least ms b) : a = b := same_asc leW_anti h1.asc h2.asc h1.nodup h2.nodup fun x => by rw [h1.mem, h2.mem]
theorem min_below {n : Nat} {ms : List (List Nat)} (hx : ∀ x ∈ ms, x.length = n) : ∀ (k : Nat) (x : List Nat), x ∈ ms → x.sum ≤ k → ∃ y, IsMin ms y ∧ dv y x = true
  | 0, x, hm, hk => ⟨x, ⟨hm, fun y hy hd => dv_eq (by rw [hx y hy, hx x hm]) hd (by have := dv_sum (by rw [hx y hy, hx x hm]) hd; omega)⟩, dv_refl x⟩
  | k + 1, x, hm, hk => by
    by_cases c : ∀ y ∈ ms, dv y x = true → y = x
    · exact ⟨x, ⟨hm, c⟩, dv_refl x⟩
    · have ⟨y, hc⟩ := Classical.not_forall.mp c
      have ⟨hy, hc⟩ := Classical.not_imp.mp hc
      have ⟨hd, hne⟩ := Classical.not_imp.mp hc
      have hs := dv_sum (by rw [hx y hy, hx x hm]) hd
      have hlt : y.sum ≤ k := by
        by_cases e : y.sum = x.sum
        · exact absurd (dv_eq (by rw [hx y hy, hx x hm]) hd e) hne
        · omega
      obtain ⟨z, hz, hzy⟩ := min_below hx k y hy hlt
      exact ⟨z, hz, dv_trans (by rw [hx z hz.1, hx y hy]) (by rw [hx y hy, hx x hm]) hzy hd⟩
theorem least_same {n : Nat} {ms ls : List (List Nat)} (hx : ∀ x ∈ ms, x.length = n) (h : Least ms ls) : SameLot n ls ms := fun m hm => by
  have : inI ls m = true ↔ inI ms m = true := by
    rw [inI_iff, inI_iff]
    constructor
    · rintro ⟨x, h1, h2⟩
      exact ⟨x, ((h.mem x).mp h1).1, h2⟩
    · rintro ⟨x, h1, h2⟩
      obtain ⟨y, hy, hyx⟩ := min_below hx x.sum x h1 (Nat.le_refl _)
      exact ⟨y, (h.mem y).mpr hy, dv_trans (by rw [hx y hy.1, hx x h1]) (by rw [hx x h1, hm]) hyx h2⟩
  exact Bool.eq_iff_iff.mpr this
/-- one step of the sieve: what stands ahead tells whether a word is least -/
theorem sieve {n : Nat} {ms L fs : List (List Nat)} {j : Nat} {x : List Nat} (hx : ∀ x ∈ ms, x.length = n) (hL : ∀ x, x ∈ L ↔ x ∈ ms) (hnd : L.Nodup) (hs : L.Pairwise fun x y => x.sum ≤ y.sum) (hj : L[j]? = some x) (hf : ∀ y, y ∈ fs ↔ y ∈ L.take j ∧ IsMin ms y) :
    (fs.any fun y => dv y x) = true ↔ ¬ IsMin ms x := by
  have hxL := List.mem_of_getElem? hj
  have hxm := (hL x).mp hxL
  obtain ⟨hjl, hjx⟩ := List.getElem?_eq_some_iff.mp hj
  rw [List.any_eq_true]
  constructor
  · rintro ⟨y, hy, hd⟩ hmin
    obtain ⟨h1, h2⟩ := (hf y).mp hy
    have e := hmin.2 y h2.1 hd
    obtain ⟨i, hi, hiy⟩ := List.getElem_of_mem h1
    have hij : i < j := by rw [List.length_take] at hi; omega
    rw [List.getElem_take] at hiy
    exact List.pairwise_iff_getElem.mp hnd i j (by omega) hjl hij (by rw [hiy, hjx, e])
  · intro hn
    have ⟨y, hc⟩ := Classical.not_forall.mp (fun h => hn ⟨hxm, h⟩)
    have ⟨hy, hc⟩ := Classical.not_imp.mp hc
    have ⟨hd, hne⟩ := Classical.not_imp.mp hc
    obtain ⟨z, hz, hzy⟩ := min_below hx y.sum y hy (Nat.le_refl _)
    have hlen : ∀ {a b : List Nat}, a ∈ ms → b ∈ ms → a.length = b.length := fun ha hb => by rw [hx _ ha, hx _ hb]
    have hzx : dv z x = true := dv_trans (hlen hz.1 hy) (hlen hy hxm) hzy hd
    have s1 := dv_sum (hlen hz.1 hy) hzy
    have s2 := dv_sum (hlen hy hxm) hd
    have hlt : z.sum < x.sum := by
      by_cases e : z.sum = x.sum
      · exact absurd (dv_eq (hlen hy hxm) hd (by omega)) hne
      · omega
    refine ⟨z, (hf z).mpr ⟨?_, hz⟩, hzx⟩
    obtain ⟨i, hi, hiz⟩ := List.getElem_of_mem ((hL z).mpr hz.1)
    have hij : i < j := by
      by_cases c : i < j
      · exact c
      · by_cases e : i = j
        · subst e
          rw [hiz] at hjx
          rw [hjx] at hlt
          omega
        · have := List.pairwise_iff_getElem.mp hs j i hjl hi (by omega)
          rw [hiz, hjx] at this
          omega
    rw [← hiz, List.mem_take_iff_getElem]
    exact ⟨i, by omega, rfl⟩
section
variable {K : PySem.W.Frag} {σ : L2.St} {H H' : Hp} {ta tb te tl td ty : TE} {D : Ends} {tz tu : TS} {i j : Nat} {R : Rl} {t : TA} {g : TG}
/-- a new list of words, told by A -/
def EvG (te : TE) (σ : L2.St) (H : Hp) (A : List (List Nat) → Prop) : Prop := ∀ H1, Ex H H1 → ∀ Q : VK, (∀ p ys L H2, A L → H1 p = none → Ex H1 H2 → H2 p = some (.lst ys) → Pd rWh H2 ys L → Q (.ref p) H2) → te σ H1 Q
theorem evg_sortedSum {ms : List (List Nat)} {a : Addr} {xs : List V} (h : Ev te σ H (.ref a)) (hs : SqL K H a xs ∨ SqT K H a xs) (pd : Pd rWh H xs ms) (hz : ms.length < 50000) : EvG (tSrt (tCons (tDcW K te) tNil)) σ H fun L => L.Perm (uniq ms) ∧ L.Pairwise (fun x y => x.sum ≤ y.sum) := fun H1 e Q q =>
  h H1 e _ fun H2 e2 => ⟨a, xs, ms, rfl, hs.elim (fun x => .inl (ex_l (e.trans e2) x)) (fun x => .inr (ex_t (e.trans e2) x)), pd.keep rWh_stb (Kp.ex (e.trans e2)), hz, fun D hD => ⟨D, uniq ms, rfl, upd_same, fun p ys L hp h1 h2 h3 => by
    have ne : p ≠ D := fun z => by rw [z, upd_same] at hp; cases hp
    have hp' : H2 p = none := by rw [upd_ne ne] at hp; exact hp
    have e3 : Ex H2 (upd (upd H2 D (.dT (kvT (uniq ms)))) p (.lst ys)) := (Ex.new hD).trans (Ex.new hp)
    exact q p ys L _ ⟨h1, h2⟩ (fresh_back e2 hp') (e2.trans e3) upd_same (h3.keep rWh_stb (Kp.ex (Ex.new hp)))⟩⟩
theorem s_forG {A : List (List Nat) → Prop} (h : EvG te σ H A) (k : ∀ p ys L H1, A L → H p = none → Ex H H1 → H1 p = some (.lst ys) → Pd rWh H1 ys L → LoopL K g tu D σ p ys H1) : tFor (iList K te) g tu D σ H :=
  h H (Ex.refl H) _ fun p ys L H1 hA hp e h1 pd => by
    obtain ⟨Pv, a, b, c, d⟩ := k p ys L H1 hA hp e h1 pd
    exact ⟨p, rfl, ⟨ys, sq_of h1⟩, for_list Pv a b c d⟩
theorem q_forG {A : List (List Nat) → Prop} (h : EvG te σ H A) (k : ∀ p ys L H1, A L → H p = none → Ex H H1 → H1 p = some (.lst ys) → Pd rWh H1 ys L → LoopL K g tu { D with nx := tz D } σ p ys H1) : tSeq (tFor (iList K te) g tu) tz D σ H := s_forG (D := { D with nx := tz D }) h k
theorem q_asgG {A : List (List Nat) → Prop} (h : EvG te σ H A) (k : ∀ p ys L H1, A L → H p = none → Ex H H1 → H1 p = some (.lst ys) → Pd rWh H1 ys L → tz D (σ.set i (some (.ref p))) H1) : tSeq (tAsg te (gName i)) tz D σ H :=
  h H (Ex.refl H) _ fun p ys L H1 hA hp e h1 pd => k p ys L H1 hA hp e h1 pd
theorem Pd.impW {ms : List (List Nat)} {xs : List V} (p : Pd rWh H xs ms) : Pd (rW K) H xs ms := ⟨p.1, fun j v m h1 h2 => rWh_W (p.2 j v m h1 h2)⟩
/-- tuple(sorted(found)) -/
theorem evp_tupSort {fs : List (List Nat)} (h : EvP te σ H (rL K (rW K) fs)) (hne : ∀ m ∈ fs, m ≠ []) : EvP (tThen (tCB (rSortW K) (tCons te tNil)) (kTup K)) σ H fun H v => ∃ ls, ls.Perm fs ∧ ls.Pairwise leW ∧ rTs K (rW K) ls H v := fun H1 e Q q =>
  evf_sortW h hne H1 e _ fun ms' p vs H2 hp ha hn e2 h2 pd => .inl ⟨p, vs, rfl, sq_of h2, fun t ht => q _ _ (e2.trans (Ex.new ht)) ⟨ms', hp, ha, t, vs, rfl, st_of upd_same, pd.keep (rW_stb K) (Kp.ex (Ex.new ht))⟩⟩
end
section
variable {P : Program} {w : World} {K : PySem.W.Frag} {mg : Str → Option Value} {base : Heap}
def sp_least_of (K : PySem.W.Frag) : Sp := spR fun vs H R => ∃ (ms : List (List Nat)) (n : Nat) (a : Addr) (xs : List V), vs = [.ref a] ∧ SqL K H a xs ∧ Pd rWh H xs ms ∧ (∀ x ∈ ms, x.length = n) ∧ 1 ≤ n ∧ n ≤ 8 ∧ ms.length ≤ 1000 ∧ R = fun H v => ∃ ls, Least ms ls ∧ rTs K (rW K) ls H v
abbrev N_least_of : List Str := ["products", "found", "product", "one"]
theorem sc_least_of : FnScope N_least_of ["products"] (defScope s_least_of) := ⟨rfl, rfl, rfl, by decide +kernel, rfl, by decide +kernel, by decide +kernel⟩
theorem has_least_of (T : Tx K mg) : Has P w K mg base "least_of" ["products"] 2 (sp_least_of K) := by
  have h_divides : Has P w K mg base _ _ 1 (sp_divides K) := has_divides T
  obtain ⟨fd, F⟩ := T.fn_least_of
  refine ⟨⟨fd, F.ok sc_least_of (fun vs H Q E h => ?_) (fun cdv A outer s H vs Q E hr h => ?_), F.bindsN fun _ _ _ _ _ _ us hl => match us, hl with | [_], _ => rfl⟩, F.kp, T.g_least_of⟩
  · obtain ⟨R, ⟨ms, n, a, xs, rfl, _⟩, _⟩ := h; rfl
  · obtain ⟨R, ⟨ms, n, a, xs, rfl, ha, pd, hx, n1, n8, hz, rfl⟩, k⟩ := h
    refine ⟨_, PSs.nox (pss_cons (ps_set (i := 1) sc_least_of.nd rfl (Or.inl rfl) (pe_lst pa_nil)) (pss_cons (ps_for PassesOwn.never rfl (pi_list (pe_sortedSum rfl hr.units (by rfl) T.sorted_ (by rfl) T.sum_ (pa_cons (pe_dcW rfl (by have := hr.units; exact Nat.lt_of_le_of_lt (Nat.le_add_right _ 64) this) (pv 0) (blkOk_by (own := [("one", 3)]) (N := N_least_of) (sc := defScope s_least_of) (by decide +kernel)) (by decide +kernel) (by rfl) (by decide) (fun _ => rfl)) pa_nil))) (pg_name (i := 2) sc_least_of.nd rfl (Or.inr rfl)) (pss_one (ps_if (pt_not (pt_val (pe_callB (cr_any rfl) (by rfl) T.any_ (by decide +kernel) (pa_cons (pe_lc (own := [("one", 3)]) rfl sc_least_of.nd (pi_list (pv 1)) (blkOk_by (own := [("one", 3)]) (N := N_least_of) (sc := defScope s_least_of) (by decide +kernel)) (by intro _ _ _ _ _; refine pg_nm (i := 3) ?_ ?_ ?_ ?_; exact sc_least_of.nd; exact rfl; all_goals first | exact .inl rfl | exact .inr rfl) (fun _ _ _ _ _ => pts_nil) (by intro _ _ _ _ _; exact (pe_h h_divides (hr.mono (by decide)) pass0 (pa_cons (pv 3) (pa_cons (pv 2) pa_nil))))) pa_nil)))) (pss_one (ps_expr (pe_bm PySem.F.plainAttrs_list PySem.F.slot_list_append PySem.F.type_list_append mt_append (pv 1) (pa_cons (pv 2) pa_nil)))) pss_nil))) (pss_one (ps_ret (pe_tupleOf (by rfl) T.tuple_ (pe_callB (cr_sortW hr.units) (by rfl) T.sorted_ (by decide +kernel) (pa_cons (pv 1) pa_nil))))))), ?_⟩
    refine q_asgF (R := rW K) (is := []) evf_nil (fun l us0 H1 hl e1 h1 pd1 => ?_)
    obtain rfl : us0 = [] := by have := pd1.1; simpa using this
    refine q_forG (evg_sortedSum (ev_var rfl) (.inl (ex_l e1 ha)) (pd.keep rWh_stb (Kp.ex e1)) (by omega)) (fun p ys L H2 ⟨hL, hs⟩ hp e2 h2 pd2 => ?_)
    have hml : ∀ x, x ∈ L ↔ x ∈ ms := fun x => by rw [hL.mem_iff, uniq_mem]
    have hnd : L.Nodup := hL.nodup_iff.mpr (uniq_nodup ms)
    have hll : L.length ≤ 1000 := by rw [hL.length_eq]; have := uniq_len ms; omega
    have hne : p ≠ l := fun z => by rw [z, h1] at hp; cases hp
    refine ⟨fun j σ' H' => ∃ fs us x2, σ' = [some (.ref a), some (.ref l), x2, none] ∧ Ex H H' ∧ H' p = some (.lst ys) ∧ Pd rWh H' ys L ∧ H' l = some (.lst us) ∧ Pd (rW K) H' us fs ∧ fs.Nodup ∧ fs.length ≤ j ∧ ∀ y, y ∈ fs ↔ y ∈ L.take j ∧ IsMin ms y,
      ⟨[], [], none, rfl, e1.trans e2, h2, pd2, e2 _ _ h1, Pd.nil, by simp, Nat.zero_le _, by simp⟩, fun j σ' H' _ ⟨fs, us, x2, _, _, h, _⟩ => sq_of h, ?_, ?_⟩
    · rintro j u σ' H' hju ⟨fs, us, x2, rfl, e, hp', pdy, hl', pdf, fnd, fl, hf⟩
      obtain ⟨x, hjx, b, rfl, hb⟩ := pdy.get hju
      have hxm := (hml x).mp (List.mem_of_getElem? hjx)
      have hsv := sieve hx hml hnd hs hjx hf
      have hjl : j < L.length := (List.getElem?_eq_some_iff.mp hjx).1
      have htk : L.take (j + 1) = L.take j ++ [x] := by rw [List.take_succ, hjx]; rfl
      have hfm : ∀ y ∈ fs, y ∈ ms := fun y hy => ((hf y).mp hy).2.1
      refine s_when (b := !(fs.any fun y => dv y x)) (et_not (et_is (et_test (ev_anyL (bs := fs.map fun y => dv y x) (evp_lc0 (ei_list (R := rW K) (is := fs) (rW_stb K) (evp_var rfl fun H3 e3 => ⟨l, us, rfl, sq_of (e3 _ _ hl'), pdf.keep (rW_stb K) (Kp.ex e3)⟩)) rBl_stb (by omega) gm_name ?_))) (by rw [List.any_map]; rfl))) (fun z H3 e3 => ?_) (fun z H3 e3 => ?_)
      · rintro y v H3 e3 hy ⟨c, rfl, hc⟩
        exact ⟨rfl, rfl, evp_call (ea_cons (ev_var rfl) (ea_cons (ev_var rfl) ea_nil)) (SpP.of fun H4 e4 => ⟨y, x, c, b, rfl, ex_t e4 hc, st_of ((e3.trans e4) _ _ hb), by rw [hx y (hfm y hy), hx x hxm], by rw [hx y (hfm y hy)]; exact n8, rfl⟩)⟩
      · have hmin : IsMin ms x := by
          by_cases c : IsMin ms x
          · exact c
          · rw [hsv.mpr c] at z; cases z
        refine s_app (l := l) (e3 _ _ hl') (ev_var rfl) (ev_var rfl) (by rw [pdf.1]; omega) (fun H4 e4 => ⟨fs ++ [x], us ++ [.ref b], _, rfl, Ex.mut ((e.trans e3).trans e4) (fresh_back (Ex.refl H) hl), ?_, ?_, upd_same, ?_, ?_, ?_, ?_⟩)
        · rw [upd_ne hne]; exact (e3.trans e4) _ _ hp'
        · exact (pdy.keep rWh_stb (Kp.ex (e3.trans e4))).keep rWh_stb (Kp.lst ((e3.trans e4) _ _ hl'))
        · exact pd_app (e3 _ _ hl') e4 (pdf.keep (rW_stb K) (Kp.ex e3)) (rW_stb K) (rWh_W ⟨b, rfl, (e3.trans e4) _ _ hb⟩)
        · refine List.nodup_append.mpr ⟨fnd, by simp, fun c hc d hd ecd => ?_⟩
          simp at hd
          subst hd
          subst ecd
          have := hsv.mp (List.any_eq_true.mpr ⟨c, hc, dv_refl c⟩)
          exact this hmin
        · rw [List.length_append, List.length_singleton]; omega
        · intro y
          rw [htk, List.mem_append, List.mem_append, List.mem_singleton, hf]
          constructor
          · rintro (⟨h5, h6⟩ | h5)
            · exact ⟨.inl h5, h6⟩
            · rw [h5]; exact ⟨.inr rfl, hmin⟩
          · rintro ⟨h5 | h5, h6⟩
            · exact .inl ⟨h5, h6⟩
            · exact .inr h5
      · have hnm : ¬ IsMin ms x := hsv.mp (by cases h5 : (fs.any fun y => dv y x) with
          | true => rfl
          | false => rw [h5] at z; cases z)
        refine ⟨fs, us, _, rfl, e.trans e3, e3 _ _ hp', pdy.keep rWh_stb (Kp.ex e3), e3 _ _ hl', pdf.keep (rW_stb K) (Kp.ex e3), fnd, by omega, fun y => ?_⟩
        rw [htk, List.mem_append, List.mem_singleton, hf]
        constructor
        · rintro ⟨h5, h6⟩
          exact ⟨.inl h5, h6⟩
        · rintro ⟨h5 | h5, h6⟩
          · exact ⟨h5, h6⟩
          · rw [h5] at h6; exact absurd h6 hnm
    · rintro σ' H' ⟨fs, us, x2, rfl, e, hp', pdy, hl', pdf, fnd, fl, hf⟩
      rw [pdy.1, List.take_length] at hf
      refine s_retP (evp_tupSort (fs := fs) (evp_var rfl fun H3 e3 => ⟨l, us, rfl, sq_of (e3 _ _ hl'), pdf.keep (rW_stb K) (Kp.ex e3)⟩) (fun m hm => ?_)) (fun v H3 e3 ⟨ls, hpl, hasc, hv⟩ => k v H3 (e.trans e3) ⟨ls, ⟨hasc, hpl.nodup_iff.mpr fnd, fun x => ?_⟩, hv⟩)
      · have h5 := hx m ((hf m).mp hm).2.1
        intro z
        rw [z] at h5
        simp at h5
        omega
      · rw [hpl.mem_iff, hf, hml]
        exact ⟨fun h => h.2, fun h => ⟨h.1, h⟩⟩
end
end PLW
end
section
set_option Elab.async false
set_option linter.all false
set_option maxRecDepth 100000
set_option maxHeartbeats 2000000
namespace PLW
open PySem PySem.Spec PyProof.Rows L2 Evl RZ
open PL PySem.W
section
variable {P : Program} {w : World} {K : PySem.W.Frag} {mg : Str → Option Value} {base : Heap}
def sp_few_least_of (K : PySem.W.Frag) : Sp := spR fun vs H R => ∃ (ms : List (List Nat)) (n : Nat) (a : Addr) (xs : List V), vs = [.ref a] ∧ (SqL K H a xs ∨ SqT K H a xs) ∧ Pd rWh H xs ms ∧ (∀ x ∈ ms, x.length = n ∧ ∀ k ∈ x, k ≤ 60) ∧ 1 ≤ n ∧ n ≤ 8 ∧ ms.length ≤ 24 ∧ R = fun H v => ∃ ls, Least ms ls ∧ rTs K (rW K) ls H v
abbrev N_few_least_of : List Str := ["products", "once", "found", "product", "one"]
theorem sc_few_least_of : FnScope N_few_least_of ["products"] (defScope s_few_least_of) := ⟨rfl, rfl, rfl, by decide +kernel, rfl, by decide +kernel, by decide +kernel⟩
theorem has_few_least_of (T : Tx K mg) : Has P w K mg base "few_least_of" ["products"] 3 (sp_few_least_of K) := by
  have h_divides : Has P w K mg base _ _ 1 (sp_divides K) := has_divides T
  have h_are_long : Has P w K mg base _ _ 1 (sp_are_long K) := has_are_long T
  have h_least_of : Has P w K mg base _ _ 2 (sp_least_of K) := has_least_of T
  obtain ⟨_, m_MAX_EXPONENT⟩ := T.i_MAX_EXPONENT
  obtain ⟨_, m_MAX_MEMBERS⟩ := T.i_MAX_MEMBERS
  obtain ⟨fd, F⟩ := T.fn_few_least_of
  refine ⟨⟨fd, F.ok sc_few_least_of (fun vs H Q E h => ?_) (fun cdv A outer s H vs Q E hr h => ?_), F.bindsN fun _ _ _ _ _ _ us hl => match us, hl with | [_], _ => rfl⟩, F.kp, T.g_few_least_of⟩
  · obtain ⟨R, ⟨ms, n, a, xs, rfl, _⟩, _⟩ := h; rfl
  · obtain ⟨R, ⟨ms, n, a, xs, rfl, ha, pd, hxx, n1, n8, hz, rfl⟩, k⟩ := h
    have hx : ∀ x ∈ ms, x.length = n := fun x hm => (hxx x hm).1
    refine ⟨_, PSs.nox (pss_cons (ps_set (i := 1) sc_few_least_of.nd rfl (Or.inl rfl) (pe_sortedSum rfl hr.units (by rfl) T.sorted_ (by rfl) T.sum_ (pa_cons (pe_dcW rfl (by have := hr.units; exact Nat.lt_of_le_of_lt (Nat.le_add_right _ 64) this) (pv 0) (blkOk_by (own := [("one", 4)]) (N := N_few_least_of) (sc := defScope s_few_least_of) (by decide +kernel)) (by decide +kernel) (by rfl) (by decide) (fun _ => rfl)) pa_nil))) (pss_cons (ps_if (PW.pt (pw_and (pt_val (pe_h h_are_long (hr.mono (by decide)) pass0 (pa_cons (pv 1) pa_nil))) (pw_and1 (pt_val (pe_h h_are_long (hr.mono (by decide)) pass0 (pa_cons (pe_h h_least_of (hr.mono (by decide)) pass0 (pa_cons (pv 1) pa_nil)) pa_nil)))))) (pss_one ps_never) pss_nil) (pss_cons (ps_set (i := 2) sc_few_least_of.nd rfl (Or.inl rfl) (pe_lst pa_nil)) (pss_cons (ps_for PassesOwn.never rfl (pi_list (pv 1)) (pg_name (i := 3) sc_few_least_of.nd rfl (Or.inr rfl)) (pss_one (ps_if (pt_not (pt_val (pe_callB (cr_any rfl) (by rfl) T.any_ (by decide +kernel) (pa_cons (pe_lc (own := [("one", 4)]) rfl sc_few_least_of.nd (pi_list (pv 2)) (blkOk_by (own := [("one", 4)]) (N := N_few_least_of) (sc := defScope s_few_least_of) (by decide +kernel)) (by intro _ _ _ _ _; refine pg_nm (i := 4) ?_ ?_ ?_ ?_; exact sc_few_least_of.nd; exact rfl; all_goals first | exact .inl rfl | exact .inr rfl) (fun _ _ _ _ _ => pts_nil) (by intro _ _ _ _ _; exact (pe_h h_divides (hr.mono (by decide)) pass0 (pa_cons (pv 4) (pa_cons (pv 3) pa_nil))))) pa_nil)))) (pss_cons (ps_expr (pe_bm PySem.F.plainAttrs_list PySem.F.slot_list_append PySem.F.type_list_append mt_append (pv 2) (pa_cons (pv 3) pa_nil))) (pss_one (ps_if (pt_cmpR op_gt (pe_callB call_len_seq (by rfl) T.len_ (by decide +kernel) (pa_cons (pv 2) pa_nil)) (pe_glob (v := .int 24) rfl m_MAX_MEMBERS ⟨_, rfl⟩) (nomark _)) (pss_one ps_never) pss_nil))) pss_nil))) (pss_one (ps_ret (pe_tupleOf (by rfl) T.tuple_ (pe_callB (cr_sortW hr.units) (by rfl) T.sorted_ (by decide +kernel) (pa_cons (pv 2) pa_nil))))))))), ?_⟩
    refine q_asgG (evg_sortedSum (ev_var rfl) ha pd (by omega)) (fun p ys L H2 ⟨hL, hs⟩ hp e2 h2 pd2 => ?_)
    have hml : ∀ x, x ∈ L ↔ x ∈ ms := fun x => by rw [hL.mem_iff, uniq_mem]
    have hnd : L.Nodup := hL.nodup_iff.mpr (uniq_nodup ms)
    have hll : L.length ≤ 24 := by rw [hL.length_eq]; have := uniq_len ms; omega
    have hne0 : ∀ x ∈ ms, x ≠ [] := fun x hm z => by
      have h5 := hx x hm
      rw [z] at h5
      simp at h5
      omega
    refine q_when (b := false && false) (et_and (et_test (evp_call (ea_cons (ev_var rfl) ea_nil) (SpP.of fun H4 e4 => ⟨L, .ref p, rfl, ⟨p, ys, rfl, sq_of (e4 _ _ h2), (pd2.keep rWh_stb (Kp.ex e4)).impW⟩, fun x hm => ⟨hne0 x ((hml x).mp hm), (hxx x ((hml x).mp hm)).2⟩, by omega, rfl⟩)).ev) (fun z => by cases z)) (fun z => by cases z) (fun _ H3 e3 => ?_)
    refine q_asgF (R := rW K) (is := []) evf_nil (fun l us0 H4 hl e4 h4 pd4 => ?_)
    obtain rfl : us0 = [] := by have := pd4.1; simpa using this
    have h2' := (e3.trans e4) _ _ h2
    have hne : p ≠ l := fun z => by rw [← z, e3 _ _ h2] at hl; cases hl
    have hlH : H l = none := fresh_back (e2.trans e3) hl
    refine q_forL (a := p) (xs := ys) (ev_var rfl) (sq_of h2') (fun j σ' H' => ∃ fs us x2, σ' = [some (.ref a), some (.ref p), some (.ref l), x2, none] ∧ Ex H H' ∧ H' p = some (.lst ys) ∧ Pd rWh H' ys L ∧ H' l = some (.lst us) ∧ Pd (rW K) H' us fs ∧ fs.Nodup ∧ fs.length ≤ j ∧ ∀ y, y ∈ fs ↔ y ∈ L.take j ∧ IsMin ms y)
      (fun H5 e5 => ⟨[], [], none, rfl, ((e2.trans e3).trans e4).trans e5, e5 _ _ h2', pd2.keep rWh_stb (Kp.ex ((e3.trans e4).trans e5)), e5 _ _ h4, Pd.nil, by simp, Nat.zero_le _, by simp⟩) (fun j σ' H' _ ⟨fs, us, x2, _, _, h, _⟩ => sq_of h) ?_ ?_
    · rintro j u σ' H' hju ⟨fs, us, x2, rfl, e, hp', pdy, hl', pdf, fnd, fl, hf⟩
      obtain ⟨x, hjx, b, rfl, hb⟩ := pdy.get hju
      have hxm := (hml x).mp (List.mem_of_getElem? hjx)
      have hsv := sieve hx hml hnd hs hjx hf
      have hjl : j < L.length := (List.getElem?_eq_some_iff.mp hjx).1
      have htk : L.take (j + 1) = L.take j ++ [x] := by rw [List.take_succ, hjx]; rfl
      have hfm : ∀ y ∈ fs, y ∈ ms := fun y hy => ((hf y).mp hy).2.1
      refine s_when (b := !(fs.any fun y => dv y x)) (et_not (et_is (et_test (ev_anyL (bs := fs.map fun y => dv y x) (evp_lc0 (ei_list (R := rW K) (is := fs) (rW_stb K) (evp_var rfl fun H3 e3 => ⟨l, us, rfl, sq_of (e3 _ _ hl'), pdf.keep (rW_stb K) (Kp.ex e3)⟩)) rBl_stb (by omega) gm_name ?_))) (by rw [List.any_map]; rfl))) (fun z H3 e3 => ?_) (fun z H3 e3 => ?_)
      · rintro y v H3 e3 hy ⟨c, rfl, hc⟩
        exact ⟨rfl, rfl, evp_call (ea_cons (ev_var rfl) (ea_cons (ev_var rfl) ea_nil)) (SpP.of fun H4 e4 => ⟨y, x, c, b, rfl, ex_t e4 hc, st_of ((e3.trans e4) _ _ hb), by rw [hx y (hfm y hy), hx x hxm], by rw [hx y (hfm y hy)]; exact n8, rfl⟩)⟩
      · have hmin : IsMin ms x := by
          by_cases c : IsMin ms x
          · exact c
          · rw [hsv.mpr c] at z; cases z
        refine q_app (l := l) (e3 _ _ hl') (ev_var rfl) (ev_var rfl) (by rw [pdf.1]; omega) (fun H4 e4 => ?_)
        have hul : us.length ≤ 24 := by rw [pdf.1]; omega
        have hfs : fs.length + 1 ≤ 24 := by omega
        refine s_when (b := false) (et_is (et_test (ev_cmp (ev_lenL (ev_var rfl) (sq_of upd_same)) ev_c)) (decide_eq_false (by rw [List.length_append, List.length_singleton, pdf.1]; omega))) (fun z => by cases z) (fun _ H5 e5 => ⟨fs ++ [x], us ++ [.ref b], _, rfl, (Ex.mut ((e.trans e3).trans e4) hlH).trans e5, ?_, ?_, e5 _ _ upd_same, ?_, ?_, ?_, ?_⟩)
        · exact e5 _ _ (by rw [upd_ne hne]; exact (e3.trans e4) _ _ hp')
        · exact ((pdy.keep rWh_stb (Kp.ex (e3.trans e4))).keep rWh_stb (Kp.lst ((e3.trans e4) _ _ hl'))).keep rWh_stb (Kp.ex e5)
        · exact (pd_app (e3 _ _ hl') e4 (pdf.keep (rW_stb K) (Kp.ex e3)) (rW_stb K) (rWh_W ⟨b, rfl, (e3.trans e4) _ _ hb⟩)).keep (rW_stb K) (Kp.ex e5)
        · refine List.nodup_append.mpr ⟨fnd, by simp, fun c hc d hd ecd => ?_⟩
          simp at hd
          subst hd
          subst ecd
          have := hsv.mp (List.any_eq_true.mpr ⟨c, hc, dv_refl c⟩)
          exact this hmin
        · rw [List.length_append, List.length_singleton]; omega
        · intro y
          rw [htk, List.mem_append, List.mem_append, List.mem_singleton, hf]
          constructor
          · rintro (⟨h5, h6⟩ | h5)
            · exact ⟨.inl h5, h6⟩
            · rw [h5]; exact ⟨.inr rfl, hmin⟩
          · rintro ⟨h5 | h5, h6⟩
            · exact .inl ⟨h5, h6⟩
            · exact .inr h5
      · have hnm : ¬ IsMin ms x := hsv.mp (by cases h5 : (fs.any fun y => dv y x) with
          | true => rfl
          | false => rw [h5] at z; cases z)
        refine ⟨fs, us, _, rfl, e.trans e3, e3 _ _ hp', pdy.keep rWh_stb (Kp.ex e3), e3 _ _ hl', pdf.keep (rW_stb K) (Kp.ex e3), fnd, by omega, fun y => ?_⟩
        rw [htk, List.mem_append, List.mem_singleton, hf]
        constructor
        · rintro ⟨h5, h6⟩
          exact ⟨.inl h5, h6⟩
        · rintro ⟨h5 | h5, h6⟩
          · exact ⟨h5, h6⟩
          · rw [h5] at h6; exact absurd h6 hnm
    · rintro σ' H' ⟨fs, us, x2, rfl, e, hp', pdy, hl', pdf, fnd, fl, hf⟩
      rw [pdy.1, List.take_length] at hf
      refine s_retP (evp_tupSort (fs := fs) (evp_var rfl fun H3 e3 => ⟨l, us, rfl, sq_of (e3 _ _ hl'), pdf.keep (rW_stb K) (Kp.ex e3)⟩) (fun m hm => ?_)) (fun v H3 e3 ⟨ls, hpl, hasc, hv⟩ => k v H3 (e.trans e3) ⟨ls, ⟨hasc, hpl.nodup_iff.mpr fnd, fun x => ?_⟩, hv⟩)
      · have h5 := hx m ((hf m).mp hm).2.1
        intro z
        rw [z] at h5
        simp at h5
        omega
      · rw [hpl.mem_iff, hf, hml]
        exact ⟨fun h => h.2, fun h => ⟨h.1, h⟩⟩
end
end PLW
end
section
set_option Elab.async false
set_option linter.all false
set_option maxRecDepth 100000
set_option maxHeartbeats 2000000
namespace PLW
open PySem PySem.Spec PyProof.Rows L2 Evl RZ
open PL PySem.W
/-! the numerator's recursion, plainly -/
theorem apart_of {n : Nat} {ms : List (List Nat)} (hx : ∀ x ∈ ms, x.length = n) (h : ∀ q, q < n → cntP ms q ≤ 1) : Apart ms := fun j k y x hjk hy hxk i => by
  by_cases hi : i < n
  · by_cases c : y.getD i 0 = 0
    · exact .inl c
    · refine .inr ?_
      by_cases c2 : x.getD i 0 = 0
      · exact c2
      · exfalso
        have h1 := h i hi
        unfold cntP at h1
        rw [← List.take_append_drop k ms, List.filter_append, List.length_append] at h1
        have ey : y ∈ (ms.take k).filter fun x => decide (0 < x.getD i 0) := by
          refine List.mem_filter.mpr ⟨?_, decide_eq_true (by omega)⟩
          obtain ⟨g1, g2⟩ := List.getElem?_eq_some_iff.mp hy
          rw [← g2, List.mem_take_iff_getElem]
          exact ⟨j, by omega, rfl⟩
        have exx : x ∈ (ms.drop k).filter fun x => decide (0 < x.getD i 0) := by
          refine List.mem_filter.mpr ⟨?_, decide_eq_true (by omega)⟩
          refine List.mem_iff_getElem?.mpr ⟨0, ?_⟩
          rw [List.getElem?_drop]
          exact hxk
        have p1 := List.length_pos_of_mem ey
        have p2 := List.length_pos_of_mem exx
        omega
  · refine .inl ?_
    have := hx y (List.mem_of_getElem? hy)
    rw [List.getD_eq_getElem?_getD, List.getElem?_eq_none (by omega)]
    rfl
def subw : List Nat → List Nat → List Nat
  | c :: cs, x :: xs => (c - x) :: subw cs xs
  | cs, _ => cs
theorem subw_len : ∀ {c x : List Nat}, x.length = c.length → (subw c x).length = c.length
  | [], [], _ => rfl
  | c :: cs, x :: xs, h => by simp [subw, subw_len (c := cs) (x := xs) (by simpa using h)]
theorem subw_sum : ∀ {c x : List Nat}, x.length = c.length → dv x c = true → (subw c x).sum + x.sum = c.sum
  | [], [], _, _ => rfl
  | c :: cs, x :: xs, h, hd => by
    simp only [dv, Bool.and_eq_true, decide_eq_true_eq] at hd
    have := subw_sum (c := cs) (x := xs) (by simpa using h) hd.2
    simp only [subw, List.sum_cons]
    omega
theorem dv_subw : ∀ {c x y : List Nat}, x.length = c.length → y.length = c.length → (∀ i, x.getD i 0 = 0 ∨ y.getD i 0 = 0) → dv y c = true → dv y (subw c x) = true
  | [], [], [], _, _, _, _ => rfl
  | c :: cs, x :: xs, y :: ys, h1, h2, h3, hd => by
    simp only [dv, Bool.and_eq_true, decide_eq_true_eq] at hd
    have h4 := h3 0
    have h5 := dv_subw (c := cs) (x := xs) (y := ys) (by simpa using h1) (by simpa using h2) (fun i => by have := h3 (i + 1); simpa using this) hd.2
    simp only [subw, dv, Bool.and_eq_true, decide_eq_true_eq]
    simp at h4
    exact ⟨by omega, h5⟩
theorem sumsW_cap {n : Nat} : ∀ {ms : List (List Nat)} {cap : List Nat}, (∀ x ∈ ms, x.length = n ∧ dv x cap = true) → cap.length = n → Apart ms → sumsW ms ≤ cap.sum
  | [], _, _, _, _ => Nat.zero_le _
  | x :: ms, cap, h, hc, ha => by
    have hx := h x (by simp)
    have h1 := subw_sum (c := cap) (x := x) (by rw [hx.1, hc]) hx.2
    have h2 := sumsW_cap (ms := ms) (cap := subw cap x) (fun y hy => by
      have hy' := h y (List.mem_cons_of_mem _ hy)
      refine ⟨hy'.1, dv_subw (by rw [hx.1, hc]) (by rw [hy'.1, hc]) (fun i => ?_) hy'.2⟩
      obtain ⟨k, hk⟩ := List.mem_iff_getElem?.mp hy
      exact ha 0 (k + 1) x y (by omega) rfl (by simpa using hk) i) (by rw [subw_len (by rw [hx.1, hc]), hc]) (fun j k y z hjk hy hz i => ha (j + 1) (k + 1) y z (by omega) (by simpa using hy) (by simpa using hz) i)
    show x.sum + sumsW ms ≤ cap.sum
    omega
theorem sumsW_sub : ∀ {ls ms : List (List Nat)}, ls.Nodup → (∀ x ∈ ls, x ∈ ms) → sumsW ls ≤ sumsW ms ∧ ls.length ≤ ms.length
  | [], _, _, _ => ⟨Nat.zero_le _, Nat.zero_le _⟩
  | x :: ls, ms, hn, h => by
    rw [List.nodup_cons] at hn
    have hp := List.perm_cons_erase (h x (by simp))
    obtain ⟨h1, h2⟩ := sumsW_sub (ls := ls) (ms := ms.erase x) hn.2 fun y hy => by
      have hy2 := hp.mem_iff.mp (h y (List.mem_cons_of_mem _ hy))
      rcases List.mem_cons.mp hy2 with e | e
      · subst e; exact absurd hy hn.1
      · exact e
    have h3 : sumsW ms = x.sum + sumsW (ms.erase x) := by
      unfold sumsW
      rw [(hp.map List.sum).sum_nat]
      rfl
    have h4 := hp.length_eq
    rw [List.length_cons] at h4
    refine ⟨?_, by rw [List.length_cons]; omega⟩
    show x.sum + sumsW ls ≤ _
    omega
theorem getD_sum : ∀ (x : List Nat) (p : Nat), x.getD p 0 ≤ x.sum
  | [], p => by simp
  | a :: x, 0 => by simp
  | a :: x, p + 1 => by
    have := getD_sum x p
    simp at this ⊢
    omega
theorem lessA_sum : ∀ (x : List Nat) (p e : Nat), e ≤ x.getD p 0 → 0 < e → (lessA x p e).sum + e = x.sum
  | [], p, e, h, h0 => by simp at h; omega
  | a :: x, 0, e, h, _ => by
    simp at h
    simp only [lessA, List.sum_cons]
    omega
  | a :: x, p + 1, e, h, h0 => by
    have := lessA_sum x p e (by simpa using h) h0
    simp only [lessA, List.sum_cons]
    omega
theorem lessA_le : ∀ (x : List Nat) (p e : Nat), (lessA x p e).sum ≤ x.sum
  | [], p, e => by cases p <;> simp [lessA]
  | a :: x, 0, e => by simp only [lessA, List.sum_cons]; omega
  | a :: x, p + 1, e => by
    have := lessA_le x p e
    simp only [lessA, List.sum_cons]
    omega
theorem dv_lessmono : ∀ {x y : List Nat} (p e : Nat), x.length = y.length → dv x y = true → dv (lessA x p e) (lessA y p e) = true
  | [], [], p, e, _, _ => by cases p <;> rfl
  | a :: x, b :: y, 0, e, h, hd => by
    simp only [dv, Bool.and_eq_true, decide_eq_true_eq] at hd
    simp only [lessA, dv, Bool.and_eq_true, decide_eq_true_eq]
    exact ⟨by omega, hd.2⟩
  | a :: x, b :: y, p + 1, e, h, hd => by
    simp only [dv, Bool.and_eq_true, decide_eq_true_eq] at hd
    simp only [lessA, dv, Bool.and_eq_true, decide_eq_true_eq]
    exact ⟨hd.1, dv_lessmono p e (by simpa using h) hd.2⟩
theorem split_low {p e : Nat} : ∀ ms : List (List Nat), sumsW (ms.filter fun x => decide (x.getD p 0 < e)) + e * (ms.filter fun x => decide (e ≤ x.getD p 0)).length ≤ sumsW ms
  | [] => by simp [sumsW]
  | x :: ms => by
    have ih := split_low (p := p) (e := e) ms
    have hs := getD_sum x p
    show _ ≤ x.sum + sumsW ms
    by_cases c : e ≤ x.getD p 0
    · rw [List.filter_cons_of_neg (by simpa using c), List.filter_cons_of_pos (by simpa using c), List.length_cons, Nat.mul_succ]
      omega
    · rw [List.filter_cons_of_pos (by simpa using c), List.filter_cons_of_neg (by simpa using c)]
      show x.sum + sumsW _ + _ ≤ _
      omega
theorem split_high {p e : Nat} (h0 : 0 < e) : ∀ ms : List (List Nat), sumsW (ms.map fun x => lessA x p e) + e * (ms.filter fun x => decide (e ≤ x.getD p 0)).length ≤ sumsW ms
  | [] => by simp [sumsW]
  | x :: ms => by
    have ih := split_high (p := p) h0 ms
    rw [List.map_cons]
    show (lessA x p e).sum + sumsW _ + _ ≤ x.sum + sumsW ms
    by_cases c : e ≤ x.getD p 0
    · have := lessA_sum x p e c h0
      rw [List.filter_cons_of_pos (by simpa using c), List.length_cons, Nat.mul_succ]
      omega
    · have := lessA_le x p e
      rw [List.filter_cons_of_neg (by simpa using c)]
      omega
theorem pow1_get : ∀ (n p e q : Nat), q < n → (pow1 n p e)[q]? = some (if q = p then e else 0)
  | n + 1, 0, e, 0, _ => by simp [pow1]
  | n + 1, 0, e, q + 1, h => by
    simp only [pow1, List.getElem?_cons_succ]
    rw [List.getElem?_replicate, if_pos (by omega), if_neg (by omega)]
  | n + 1, p + 1, e, 0, _ => by simp [pow1]
  | n + 1, p + 1, e, q + 1, h => by
    have := pow1_get n p e q (by omega)
    simp only [pow1, List.getElem?_cons_succ, this]
    congr 1
    by_cases c : q = p
    · rw [if_pos c, if_pos (by omega)]
    · rw [if_neg c, if_neg (by omega)]
theorem pow1_list (n p e : Nat) : (List.range n).map (fun q => if q = p then e else 0) = pow1 n p e := by
  refine List.ext_getElem? fun q => ?_
  by_cases h : q < n
  · rw [pow1_get n p e q h, List.getElem?_map, List.getElem?_range h]
    rfl
  · rw [List.getElem?_eq_none (by rw [List.length_map, List.length_range]; omega), List.getElem?_eq_none (by rw [pow1_len]; omega)]
end PLW
end
section
set_option Elab.async false
set_option linter.all false
set_option maxRecDepth 100000
set_option maxHeartbeats 2000000
namespace PLW
open PySem PySem.Spec PyProof.Rows L2 Evl RZ
open PL PySem.W
section
variable {K : PySem.W.Frag} {σ : L2.St} {H H' : Hp} {ta tb te tl td ty : TE} {D : Ends} {tz tu : TS} {i j : Nat} {R : Rl} {t : TA} {g : TG} {G : Nm → Prop}
theorem evd_call1 {pre : List V → Hp → (Nm → Prop) → Prop} (h : EvP ta σ H R) (hs : ∀ v H1, Ex H H1 → R H1 v → pre [v] H1 G) : EvD (tCall (spD pre) [] E0 (tCons ta tNil)) σ H G := fun H1 e Q q =>
  h H1 e _ fun v H2 e2 hv => ⟨G, hs v H2 (e.trans e2) hv, fun d N H3 hd e3 h3 hg => q d N H3 (fresh_back e2 hd) (e2.trans e3) h3 hg⟩
theorem evd_call1' {pre : List V → Hp → (Nm → Prop) → Prop} (h : EvP ta σ H R) (hs : ∀ v H1, Ex H H1 → R H1 v → ∃ G', pre [v] H1 G' ∧ ∀ N, G' N → G N) : EvD (tCall (spD pre) [] E0 (tCons ta tNil)) σ H G := fun H1 e Q q =>
  h H1 e _ fun v H2 e2 hv => by
    obtain ⟨G', h1, h2⟩ := hs v H2 (e.trans e2) hv
    exact ⟨G', h1, fun d N H3 hd e3 h3 hg => q d N H3 (fresh_back e2 hd) (e2.trans e3) h3 (h2 N hg)⟩
theorem evp_lcId {ι : Type} {R S : ι → Rl} {is : List ι} {wi : TI} {t : TT} {vs : List Nat} {f : ι → Bool} (hi : EvI wi σ H R is) (hs : ∀ k, Stb (S k)) (hz : is.length ≤ 40000) (gm : ∀ v σ H Q Q', (∀ σ' H', Q σ' H' → Q' σ' H') → g v σ H Q → g v σ H Q')
    (ht : ∀ i x H1, Ex H H1 → i ∈ is → R i H1 x → g x (wipe σ vs) H1 fun σ2 H2 => H2 = H1 ∧ wipe σ2 vs = wipe σ vs ∧ EvT t σ2 H1 (f i) ∧ (f i = true → EvP te σ2 H1 (S i))) : EvP (tLc wi g t te vs) σ H (rL K S (is.filter f)) := by
  have h := evp_lc (K := K) (te := te) (t := t) (f := f) (u := fun i : ι => i) (S := S) hi hs hz gm ht
  rw [List.map_id'] at h
  exact h
theorem q_forFz {H : Hp} (h : EvD te σ H G) (k : ∀ d o N H1, H d = none → Ex H H1 → H1 d = some (.frz o (.dK (dkv N))) → G N → ∃ Pv : Nat → L2.St → Hp → Prop, Pv 0 σ H1 ∧ (∀ i σ' H', i ≤ N.length → Pv i σ' H' → H' d = some (.frz o (.dK (dkv N)))) ∧
      (∀ i p T σ' H2 H', N[i]? = some p → Ex H2 H' → H' T = some (.tup [.int (p.1 : Int), .int p.2]) → Pv i σ' H2 → g (.ref T) σ' H' fun σ2 H3 => tu { D with nx := Pv (i + 1), ct := Pv (i + 1), bk := tz D } σ2 H3) ∧ ∀ σ' H', Pv N.length σ' H' → tz D σ' H') :
    tSeq (tFor (iItems (tFz te)) g tu) tz D σ H := s_forFz (D := { D with nx := tz D }) h k
theorem evp_call1 {pre : List V → Hp → Rl → Prop} {R' : Rl} (h : EvP ta σ H R) (hs : ∀ v H1, Ex H H1 → R H1 v → pre [v] H1 R') : EvP (tCall (spR pre) [] E0 (tCons ta tNil)) σ H R' := fun H1 e Q q =>
  h H1 e _ fun v H2 e2 hv => ⟨R', hs v H2 (e.trans e2) hv, fun u H3 e3 hu => q u H3 (e2.trans e3) hu⟩
/-- ( *list, x) -/
theorem evp_starL {ι : Type} {S : ι → Rl} {is : List ι} {x : ι} (h : EvP ta σ H (rL K S is)) (hb : EvP tb σ H (S x)) (hs : ∀ i, Stb (S i)) (hz : is.length ≤ 90000) : EvP (tTup (StX.tStar K ta (tCons tb tNil))) σ H (rTs K S (is ++ [x])) := fun H1 e Q q =>
  h H1 e _ fun v H2 e2 ⟨a, vs, ev, h1, pd⟩ => ⟨a, vs, ev, .inr h1, hb H2 (e.trans e2) _ fun u H3 e3 hu => ⟨sz_of (by rw [List.length_append, List.length_singleton, pd.1]; omega), fun p hp => q _ _ ((e2.trans e3).trans (Ex.new hp))
    ⟨p, vs ++ [u], rfl, st_of upd_same, ((pd.keep hs (Kp.ex e3)).snoc hu).keep hs (Kp.ex (Ex.new hp))⟩⟩⟩
end
section
variable {P : Program} {w : World} {K : PySem.W.Frag} {mg : Str → Option Value} {base : Heap}
def sp_numerator_of (K : PySem.W.Frag) (s : Nat) : Sp := spD fun vs H G => ∃ (ms : List (List Nat)) (n : Nat) (cap : List Nat) (v : V), vs = [v] ∧ rTs K (rW K) ms H v ∧ (∀ x ∈ ms, x.length = n ∧ dv x cap = true) ∧ cap.length = n ∧ cap.sum ≤ 900 ∧ 1 ≤ n ∧ n ≤ 8 ∧ ms.length ≤ 900 ∧ sumsW ms ≤ s ∧ sumsW ms ≤ 900 ∧ G = fun N => Num n ms N ∧ nd N ∧ kB N cap.sum
abbrev N_numerator_of : List Str := ["members", "many", "place", "exponent", "power", "found", "degree", "number", "at", "member"]
theorem sc_numerator_of : FnScope N_numerator_of ["members"] (defScope s_numerator_of) := ⟨rfl, rfl, rfl, by decide +kernel, rfl, by decide +kernel, by decide +kernel⟩
theorem has_numerator_of (T : Tx K mg) : ∀ s, Has P w K mg base "numerator_of" ["members"] (s + 3) (sp_numerator_of K s) := by
  have h_is_all_in : Has P w K mg base _ _ 1 (sp_is_all_in K) := has_is_all_in T
  have h_most_common_letter : Has P w K mg base _ _ 1 (sp_most_common_letter K) := has_most_common_letter T
  have h_apart_numerator : Has P w K mg base _ _ 1 (sp_apart_numerator K) := has_apart_numerator T
  have h_split_exponent : Has P w K mg base _ _ 1 (sp_split_exponent K) := has_split_exponent T
  have h_lessened : Has P w K mg base _ _ 1 (sp_lessened K) := has_lessened T
  have h_least_of : Has P w K mg base _ _ 2 (sp_least_of K) := has_least_of T
  intro sz
  induction sz with
  | zero =>
    obtain ⟨fd, F⟩ := T.fn_numerator_of
    refine ⟨⟨fd, F.ok sc_numerator_of (fun vs H Q E h => ?_) (fun cdv A outer s H vs Q E hr h => ?_), F.bindsN fun _ _ _ _ _ _ us hl => match us, hl with | [_], _ => rfl⟩, F.kp, T.g_numerator_of⟩
    · obtain ⟨G, ⟨ms, n, cap, v, rfl, _⟩, _⟩ := h; rfl
    · obtain ⟨G, ⟨ms, n, cap, v, rfl, hv, hxx, hcap, hc9, n1, n8, hml, hs, hs9, rfl⟩, k⟩ := h
      have hx : ∀ x ∈ ms, x.length = n := fun x hm => (hxx x hm).1
      have hne0 : ∀ x ∈ ms, x ≠ [] := fun x hm z => by
        have h5 := hx x hm
        rw [z] at h5
        simp at h5
        omega
      refine ⟨_, PSs.nox (pss_cons (ps_if (pt_val (pe_h h_is_all_in (hr.mono (by omega)) pass0 (pa_cons (pv 0) pa_nil))) (pss_one (ps_ret pe_dnewK)) pss_nil) (pss_cons (ps_if (pt_cmpR (op_eqD hr.units) (pv 0) (pe_tup pa_nil) (nomark _)) (pss_one (ps_ret (pe_disp (pps_cons pe_int pe_int pps_nil) rfl rfl (by simp) (by decide)))) pss_nil) (pss_cons (ps_asg (pe_h h_most_common_letter (hr.mono (by omega)) pass0 (pa_cons (pv 0) pa_nil)) (pg_tup rfl (pgs_cons (pg_name (i := 1) sc_numerator_of.nd rfl (Or.inl rfl)) (pgs_cons (pg_name (i := 2) sc_numerator_of.nd rfl (Or.inr rfl)) pgs_nil)))) (pss_cons (ps_if (pt_cmpR op_lt (pv 1) pe_int (nomark _)) (pss_one (ps_ret (pe_h h_apart_numerator (hr.mono (by omega)) pass0 (pa_cons (pv 0) pa_nil)))) pss_nil) pss_never)))), ?_⟩
      refine q_when (et_test (evp_call (ea_cons (ev_var rfl) ea_nil) (SpP.of fun H4 e4 => ⟨ms, v, rfl, rTs_stb (rW_stb K) (Kp.ex e4) hv, hne0, rfl⟩)).ev) (fun z H1 e1 => ?_) (fun z H1 e1 => ?_)
      · obtain ⟨x, rfl⟩ : ∃ x, ms = [x] := by
          match ms, z with
          | [x], _ => exact ⟨x, rfl⟩
        exact s_retD (G := fun N => N = []) (evd_new rfl) (fun d N H2 hd e2 h2 hN => k d N H2 (fresh_back e1 hd) (e1.trans e2) h2 ⟨by rw [hN]; exact num_all (of_decide_eq_true z), by rw [hN]; simp [nd], by rw [hN]; intro p hp; simp at hp⟩)
      refine q_when (b := decide (ms = [])) (et_test (ev_is (ev_eqD (d := .tuple (ms.map encW)) (e := .tuple (([] : List (List Nat)).map encW)) (evp_var rfl fun H4 e4 => dp_T (rTs_stb (rW_stb K) (Kp.ex (e1.trans e4)) hv)) ((evp_tup (K := K) ea_nil (Nat.zero_le _)).imp fun H4 u ⟨a, ea, ha⟩ => by rw [ea]; exact .tup ha .nil) (sh_T _) (sh_T _)) (by rw [PyData.eqv, eqvA_W]))) (fun z2 H2 e2 => ?_) (fun z2 H2 e2 => ?_)
      · have hms := of_decide_eq_true z2
        subst hms
        exact s_retD (G := fun N => N = [(0, 1)]) (evd_one rfl) (fun d N H3 hd e3 h3 hN => k d N H3 (fresh_back (e1.trans e2) hd) ((e1.trans e2).trans e3) h3 ⟨by rw [hN]; exact num_nil n, by rw [hN]; simp [nd], by rw [hN]; intro p hp; simp at hp; subst hp; exact Nat.zero_le _⟩)
      have hmp : 0 < ms.length := List.length_pos_iff.mpr (of_decide_eq_false z2)
      have e12 := e1.trans e2
      refine q_asgPair (K := K) (evp_call1 (R := fun H v' => v' = v) (EvP.of (ev_var rfl)) (fun u H3 e3 hu => ⟨ms, n, v, by rw [hu], rTs_stb (rW_stb K) (Kp.ex (e12.trans e3)) hv, hx, hmp, n1, n8, by omega, rfl⟩)) (fun u H3 e3 ⟨p, hp, hmax, hu⟩ => ⟨_, _, hu, ?_⟩)
      refine q_when (b := decide (cntP ms p < 2)) (et_is (et_test (ev_cmp (ev_var rfl) ev_c)) (natlt _ 2)) (fun z3 H4 e4 => ?_) (fun z3 H4 e4 => ?_)
      · have e14 := (e12.trans e3).trans e4
        have hap : Apart ms := apart_of hx fun q hq => by have := hmax q hq; have := of_decide_eq_true z3; omega
        exact s_retD (evd_call (ea_cons (ev_var rfl) ea_nil) (fun H5 e5 => ⟨ms, n, v, rfl, rTs_stb (rW_stb K) (Kp.ex (e14.trans e5)) hv, hx, hap, by omega, rfl⟩)) (fun d N H5 hd e5 h5 ⟨g1, g2, g3⟩ => k d N H5 (fresh_back e14 hd) (e14.trans e5) h5 ⟨g1, g2, fun q hq => Nat.le_trans (g3 q hq) (sumsW_cap hxx hcap hap)⟩)
      · exfalso
        have h2 := of_decide_eq_false z3
        have : (ms.filter fun x => decide (0 < x.getD p 0)) ≠ [] := fun z => by unfold cntP at h2; rw [z] at h2; simp at h2
        obtain ⟨x, hxm⟩ := List.exists_mem_of_ne_nil _ this
        obtain ⟨h3, h4⟩ := List.mem_filter.mp hxm
        have h5 := of_decide_eq_true h4
        have h6 := getD_sum x p
        have h7 := sum_mem h3
        omega
  | succ sz ih =>
    have h_numerator_of : Has P w K mg base _ _ (sz + 3) (sp_numerator_of K sz) := ih
    obtain ⟨fd, F⟩ := T.fn_numerator_of
    refine ⟨⟨fd, F.ok sc_numerator_of (fun vs H Q E h => ?_) (fun cdv A outer s H vs Q E hr h => ?_), F.bindsN fun _ _ _ _ _ _ us hl => match us, hl with | [_], _ => rfl⟩, F.kp, T.g_numerator_of⟩
    · obtain ⟨G, ⟨ms, n, cap, v, rfl, _⟩, _⟩ := h; rfl
    · obtain ⟨G, ⟨ms, n, cap, v, rfl, hv, hxx, hcap, hc9, n1, n8, hml, hs, hs9, rfl⟩, k⟩ := h
      have hx : ∀ x ∈ ms, x.length = n := fun x hm => (hxx x hm).1
      have hne0 : ∀ x ∈ ms, x ≠ [] := fun x hm z => by
        have h5 := hx x hm
        rw [z] at h5
        simp at h5
        omega
      refine ⟨_, PSs.nox (pss_cons (ps_if (pt_val (pe_h h_is_all_in (hr.mono (by omega)) pass0 (pa_cons (pv 0) pa_nil))) (pss_one (ps_ret pe_dnewK)) pss_nil) (pss_cons (ps_if (pt_cmpR (op_eqD hr.units) (pv 0) (pe_tup pa_nil) (nomark _)) (pss_one (ps_ret (pe_disp (pps_cons pe_int pe_int pps_nil) rfl rfl (by simp) (by decide)))) pss_nil) (pss_cons (ps_asg (pe_h h_most_common_letter (hr.mono (by omega)) pass0 (pa_cons (pv 0) pa_nil)) (pg_tup rfl (pgs_cons (pg_name (i := 1) sc_numerator_of.nd rfl (Or.inl rfl)) (pgs_cons (pg_name (i := 2) sc_numerator_of.nd rfl (Or.inr rfl)) pgs_nil)))) (pss_cons (ps_if (pt_cmpR op_lt (pv 1) pe_int (nomark _)) (pss_one (ps_ret (pe_h h_apart_numerator (hr.mono (by omega)) pass0 (pa_cons (pv 0) pa_nil)))) pss_nil) (pss_cons (ps_set (i := 3) sc_numerator_of.nd rfl (Or.inr rfl) (pe_h h_split_exponent (hr.mono (by omega)) pass0 (pa_cons (pv 0) (pa_cons (pv 2) pa_nil)))) (pss_cons (ps_set (i := 4) sc_numerator_of.nd rfl (Or.inl rfl) (pe_tupleOf (by rfl) T.tuple_ (pe_lc (own := [("at", 8)]) rfl sc_numerator_of.nd (pi_range1 (by rfl) T.range_ (pa_cons (pe_callB call_len_seq (by rfl) T.len_ (by decide +kernel) (pa_cons (pe_ix ix_tup (pv 0) pe_int (fun _ _ => rfl)) pa_nil)) pa_nil)) (blkOk_by (own := [("at", 8)]) (N := N_numerator_of) (sc := defScope s_numerator_of) (by decide +kernel)) (by intro _ _ _ _ _; refine pg_nm (i := 8) ?_ ?_ ?_ ?_; exact sc_numerator_of.nd; exact rfl; all_goals first | exact .inl rfl | exact .inr rfl) (fun _ _ _ _ _ => pts_nil) (by intro _ _ _ _ _; exact (pe_ifExp (pt_cmpR op_eq (pv 8) (pv 2) (nomark _)) (pv 3) pe_int))))) (pss_cons (ps_set (i := 5) sc_numerator_of.nd rfl (Or.inl rfl) (pe_h h_numerator_of (hr.mono (by omega)) pass0 (pa_cons (pe_tup (StX.pa_star (pe_lc (own := [("member", 9)]) rfl sc_numerator_of.nd (pi_tup (pv 0)) (blkOk_by (own := [("member", 9)]) (N := N_numerator_of) (sc := defScope s_numerator_of) (by decide +kernel)) (by intro _ _ _ _ _; refine pg_nm (i := 9) ?_ ?_ ?_ ?_; exact sc_numerator_of.nd; exact rfl; all_goals first | exact .inl rfl | exact .inr rfl) (by intro _ _ _ _ _; exact pts_one (pt_cmpR op_lt (pe_ix (ix_tupK (K := K) rfl) (pv 9) (pv 2) (fun _ _ => rfl)) (pv 3) (nomark _))) (by intro _ _ _ _ _; exact (pv 9))) (pa_cons (pv 4) pa_nil))) pa_nil))) (pss_cons (ps_for PassesOwn.never rfl (pi_items (pe_fz (pe_h h_numerator_of (hr.mono (by omega)) pass0 (pa_cons (pe_h h_least_of (hr.mono (by omega)) pass0 (pa_cons (pe_lc (own := [("member", 9)]) rfl sc_numerator_of.nd (pi_tup (pv 0)) (blkOk_by (own := [("member", 9)]) (N := N_numerator_of) (sc := defScope s_numerator_of) (by decide +kernel)) (by intro _ _ _ _ _; refine pg_nm (i := 9) ?_ ?_ ?_ ?_; exact sc_numerator_of.nd; exact rfl; all_goals first | exact .inl rfl | exact .inr rfl) (fun _ _ _ _ _ => pts_nil) (by intro _ _ _ _ _; exact (pe_h h_lessened (hr.mono (by omega)) pass0 (pa_cons (pv 9) (pa_cons (pv 2) (pa_cons (pv 3) pa_nil)))))) pa_nil)) pa_nil)))) (pg_tup rfl (pgs_cons (pg_name (i := 6) sc_numerator_of.nd rfl (Or.inl rfl)) (pgs_cons (pg_name (i := 7) sc_numerator_of.nd rfl (Or.inl rfl)) pgs_nil))) (pss_one (ps_dput (hu_of hr) (pv 5) (pe_op op_add (pv 6) (pv 3)) (pe_op op_add (pe_dget2 (hu_of hr) (pv 5) (pe_op op_add (pv 6) (pv 3)) pe_int ⟨rfl, rfl, rfl, rfl⟩) (pv 7)) rfl))) (pss_one (ps_ret (pv 5))))))))))), ?_⟩
      refine q_when (et_test (evp_call (ea_cons (ev_var rfl) ea_nil) (SpP.of fun H4 e4 => ⟨ms, v, rfl, rTs_stb (rW_stb K) (Kp.ex e4) hv, hne0, rfl⟩)).ev) (fun z H1 e1 => ?_) (fun z H1 e1 => ?_)
      · obtain ⟨x, rfl⟩ : ∃ x, ms = [x] := by
          match ms, z with
          | [x], _ => exact ⟨x, rfl⟩
        exact s_retD (G := fun N => N = []) (evd_new rfl) (fun d N H2 hd e2 h2 hN => k d N H2 (fresh_back e1 hd) (e1.trans e2) h2 ⟨by rw [hN]; exact num_all (of_decide_eq_true z), by rw [hN]; simp [nd], by rw [hN]; intro p hp; simp at hp⟩)
      refine q_when (b := decide (ms = [])) (et_test (ev_is (ev_eqD (d := .tuple (ms.map encW)) (e := .tuple (([] : List (List Nat)).map encW)) (evp_var rfl fun H4 e4 => dp_T (rTs_stb (rW_stb K) (Kp.ex (e1.trans e4)) hv)) ((evp_tup (K := K) ea_nil (Nat.zero_le _)).imp fun H4 u ⟨a, ea, ha⟩ => by rw [ea]; exact .tup ha .nil) (sh_T _) (sh_T _)) (by rw [PyData.eqv, eqvA_W]))) (fun z2 H2 e2 => ?_) (fun z2 H2 e2 => ?_)
      · have hms := of_decide_eq_true z2
        subst hms
        exact s_retD (G := fun N => N = [(0, 1)]) (evd_one rfl) (fun d N H3 hd e3 h3 hN => k d N H3 (fresh_back (e1.trans e2) hd) ((e1.trans e2).trans e3) h3 ⟨by rw [hN]; exact num_nil n, by rw [hN]; simp [nd], by rw [hN]; intro p hp; simp at hp; subst hp; exact Nat.zero_le _⟩)
      have hmp : 0 < ms.length := List.length_pos_iff.mpr (of_decide_eq_false z2)
      have e12 := e1.trans e2
      refine q_asgPair (K := K) (evp_call1 (R := fun H v' => v' = v) (EvP.of (ev_var rfl)) (fun u H3 e3 hu => ⟨ms, n, v, by rw [hu], rTs_stb (rW_stb K) (Kp.ex (e12.trans e3)) hv, hx, hmp, n1, n8, by omega, rfl⟩)) (fun u H3 e3 ⟨p, hp, hmax, hu⟩ => ⟨_, _, hu, ?_⟩)
      refine q_when (b := decide (cntP ms p < 2)) (et_is (et_test (ev_cmp (ev_var rfl) ev_c)) (natlt _ 2)) (fun z3 H4 e4 => ?_) (fun z3 H4 e4 => ?_)
      · have e14 := (e12.trans e3).trans e4
        have hap : Apart ms := apart_of hx fun q hq => by have := hmax q hq; have := of_decide_eq_true z3; omega
        exact s_retD (evd_call (ea_cons (ev_var rfl) ea_nil) (fun H5 e5 => ⟨ms, n, v, rfl, rTs_stb (rW_stb K) (Kp.ex (e14.trans e5)) hv, hx, hap, by omega, rfl⟩)) (fun d N H5 hd e5 h5 ⟨g1, g2, g3⟩ => k d N H5 (fresh_back e14 hd) (e14.trans e5) h5 ⟨g1, g2, fun q hq => Nat.le_trans (g3 q hq) (sumsW_cap hxx hcap hap)⟩)
      have hm2 : 2 ≤ cntP ms p := by have := of_decide_eq_false z3; omega
      have e14 := (e12.trans e3).trans e4
      have hv4 : rTs K (rW K) ms H4 v := rTs_stb (rW_stb K) (Kp.ex e14) hv
      refine q_asgP (Rr := fun _ v => ∃ e : Nat, v = .int (e : Int) ∧ 0 < e ∧ 2 ≤ (ms.filter fun x => decide (e ≤ x.getD p 0)).length) (evp_call (ea_cons (ev_var rfl) (ea_cons (ev_var rfl) ea_nil)) (SpP.of fun H5 e5 => ⟨ms, p, v, rfl, rTs_stb (rW_stb K) (Kp.ex e5) hv4, fun x hm => by rw [hx x hm]; exact hp, by omega, hm2, rfl⟩)) (fun u5 H5 e5 ⟨e, he, e0, hcnt⟩ => ?_)
      subst he
      have hv5 : rTs K (rW K) ms H5 v := rTs_stb (rW_stb K) (Kp.ex e5) hv4
      have hlow := split_low (p := p) (e := e) ms
      have hhigh := split_high (p := p) e0 ms
      have hmul : 2 * e ≤ e * (ms.filter fun x => decide (e ≤ x.getD p 0)).length := by rw [Nat.mul_comm]; exact Nat.mul_le_mul_left _ hcnt
      have hecap : e ≤ cap.getD p 0 := by
        have hne : (ms.filter fun x => decide (e ≤ x.getD p 0)) ≠ [] := fun z => by rw [z] at hcnt; simp at hcnt
        obtain ⟨x, hxm⟩ := List.exists_mem_of_ne_nil _ hne
        obtain ⟨h6, h7⟩ := List.mem_filter.mp hxm
        have h8 := of_decide_eq_true h7
        have h9 := dv_getD p (by rw [hx x h6, hcap]) (hxx x h6).2
        omega
      obtain ⟨a, vs, rfl, ha5, pd5⟩ := id hv5
      obtain ⟨m0, hm0⟩ : ∃ m0, ms[0]? = some m0 := ⟨ms[0], List.getElem?_eq_getElem hmp⟩
      obtain ⟨u0, hu0, b0, rfl, hb0⟩ := pd5.at hm0
      have hm0n : m0.length = n := hx m0 (List.mem_of_getElem? hm0)
      refine q_asgP (Rr := rW K (pow1 n p e)) (evp_tupleW (by
        rw [← pow1_list n p e]
        refine evp_lc0 (u := fun q : Nat => if q = p then e else 0) (S := rNat) (ei_rng1 (n := n) (ea_cons (ev_is (ev_lenT (ev_tsAt (k := 0) (ev_var rfl) ha5 ev_c hu0) hb0) (by rw [wV_len, hm0n])) ea_nil) (by omega)) rNat_stb (by rw [List.length_range]; omega) gm_name ?_
        intro q x H6 e6 hq hxq
        have hx2 : x = V.int (q : Int) := hxq
        subst hx2
        refine ⟨rfl, rfl, EvP.of (ev_if (b := decide (q = p)) (et_is (et_test (ev_eqI (ev_var rfl) (ev_var rfl))) (nateq _ _)) (fun c => ?_) (fun c => ?_))⟩
        · rw [if_pos (of_decide_eq_true c)]
          exact ev_var rfl
        · rw [if_neg (of_decide_eq_false c)]
          exact ev_c)) (fun pw H6 e6 hpw => ?_)
      have hv6 : rTs K (rW K) ms H6 (.ref a) := rTs_stb (rW_stb K) (Kp.ex e6) hv5
      have hlen1 : (ms.filter fun x => decide (x.getD p 0 < e)).length + (ms.filter fun x => decide (e ≤ x.getD p 0)).length = ms.length := by
        clear hlow hhigh hmul hcnt
        induction ms with
        | nil => rfl
        | cons x ms _ => exact (by
          have : ∀ l : List (List Nat), (l.filter fun x => decide (x.getD p 0 < e)).length + (l.filter fun x => decide (e ≤ x.getD p 0)).length = l.length := fun l => by
            induction l with
            | nil => rfl
            | cons y l ih =>
              by_cases c : e ≤ y.getD p 0
              · rw [List.filter_cons_of_neg (by simpa using c), List.filter_cons_of_pos (by simpa using c), List.length_cons, List.length_cons]; omega
              · rw [List.filter_cons_of_pos (by simpa using c), List.filter_cons_of_neg (by simpa using c), List.length_cons, List.length_cons]; omega
          exact this _)
      have hsum1 : sumsW ((ms.filter fun x => decide (x.getD p 0 < e)) ++ [pow1 n p e]) ≤ sz := by
        rw [sumsW_snoc, pow1_sum n p e hp]
        omega
      refine q_asgD (evd_call1 (R := rTs K (rW K) ((ms.filter fun x => decide (x.getD p 0 < e)) ++ [pow1 n p e])) (evp_starL (evp_lcId (f := fun x : List Nat => decide (x.getD p 0 < e)) (S := rW K) (ei_tup (R := rW K) (rW_stb K) (evp_var rfl fun H7 e7 => rTs_stb (rW_stb K) (Kp.ex e7) hv6)) (rW_stb K) (by omega) gm_name (by
          rintro x u7 H7 e7 hxm ⟨c, rfl, hc⟩
          exact ⟨rfl, rfl, et_is (et_test (ev_cmp (ev_wAt (ev_var rfl) hc (by rw [hx x hxm]; exact hp) (ev_var rfl)) (ev_var rfl))) (natlt _ _), fun _ => evp_var rfl fun H8 e8 => ⟨c, rfl, ex_t e8 hc⟩⟩)) (evp_var rfl fun H7 e7 => rW_stb K _ (Kp.ex e7) hpw) (rW_stb K) (by omega)) (fun u7 H7 e7 hu7 => ⟨_, n, cap, u7, rfl, hu7, fun x hxm => ?_, hcap, hc9, n1, n8, ?_, hsum1, by rw [sumsW_snoc, pow1_sum n p e hp]; omega, rfl⟩)) (fun d1 N1 H8 hd1 e8 hN1 ⟨g1, g2, g3⟩ => ?_)
      · rcases List.mem_append.mp hxm with h6 | h6
        · exact hxx x (List.mem_filter.mp h6).1
        · rw [List.mem_singleton] at h6
          rw [h6]
          exact ⟨pow1_len n p e, by rw [dv_pow1 hcap hp]; exact decide_eq_true hecap⟩
      · rw [List.length_append, List.length_singleton]; omega
      have hd1H : H d1 = none := fresh_back ((e14.trans e5).trans e6) hd1
      have e18 := ((e14.trans e5).trans e6).trans e8
      have hv8 : rTs K (rW K) ms H8 (.ref a) := rTs_stb (rW_stb K) (Kp.ex e8) hv6
      have hlm : ∀ x ∈ ms.map (fun x => lessA x p e), x.length = n := fun x hxm => by
        obtain ⟨y, hy, rfl⟩ := List.mem_map.mp hxm
        rw [lessA_len, hx y hy]
      have hcl : (lessA cap p e).sum + e = cap.sum := lessA_sum cap p e hecap e0
      refine q_forFz (G := fun N => Num n ms (addAll N1 (N.map fun q => (q.1 + e, q.2))) ∧ nd N ∧ kB N (lessA cap p e).sum) (evd_call1' (R := fun H v => ∃ ls, Least (ms.map fun x => lessA x p e) ls ∧ rTs K (rW K) ls H v) (evp_call1 (R := rL K rWh (ms.map fun x => lessA x p e)) (evp_lc0 (u := fun x : List Nat => lessA x p e) (ei_tup (R := rW K) (rW_stb K) (evp_var rfl fun H9 e9 => rTs_stb (rW_stb K) (Kp.ex e9) hv8)) rWh_stb (by omega) gm_name (by
        rintro x u9 H9 e9 hxm ⟨c, rfl, hc⟩
        exact ⟨rfl, rfl, evp_call (ea_cons (ev_var rfl) (ea_cons (ev_var rfl) (ea_cons (ev_var rfl) ea_nil))) (SpP.of fun H10 e10 => ⟨x, p, e, c, rfl, ex_t e10 hc, by rw [hx x hxm]; exact hp, by rw [hx x hxm]; exact n8, rfl⟩)⟩)) (fun u9 H9 e9 ⟨a9, x9, e9', h9, pd9⟩ => ⟨_, n, a9, x9, by rw [e9'], h9, pd9, hlm, n1, n8, by rw [List.length_map]; omega, rfl⟩)) (fun u9 H9 e9 ⟨ls, hls, hv9⟩ => ?_)) (fun d2 o N2 H9 hd2 e9 hf2 ⟨g4, g5, g6⟩ => ?_)
      · have hsub := sumsW_sub hls.nodup (fun x hxm => ((hls.mem x).mp hxm).1)
        rw [List.length_map] at hsub
        refine ⟨_, ⟨ls, n, lessA cap p e, u9, rfl, hv9, fun x hxm => ?_, by rw [lessA_len, hcap], by omega, n1, n8, by omega, by omega, by omega, rfl⟩, fun N hg => ⟨split_ok hp hx (least_same hlm hls) g1 hg.1, hg.2⟩⟩
        obtain ⟨y, hy, rfl⟩ := List.mem_map.mp ((hls.mem x).mp hxm).1
        exact ⟨by rw [lessA_len, hx y hy], dv_lessmono p e (by rw [hx y hy, hcap]) (hxx y hy).2⟩
      · have hne : d2 ≠ d1 := fun z => by rw [z, hN1] at hd2; cases hd2
        refine ⟨fun i σ' H' => ∃ y1 y2, σ' = [some (.ref a), some (.int ((cntP ms p : Nat) : Int)), some (.int (p : Int)), some (.int (e : Int)), some pw, some (.ref d1), y1, y2, none, none] ∧ Ex H H' ∧ H' d2 = some (.frz o (.dK (dkv N2))) ∧ H' d1 = some (.dK (dkv (addAll N1 ((N2.take i).map fun q => (q.1 + e, q.2))))),
          ⟨none, none, rfl, e18.trans e9, hf2, e9 _ _ hN1⟩, fun i σ' H' _ ⟨_, _, _, _, h, _⟩ => h, ?_, ?_⟩
        · rintro i q t σ' H2' H3' hiq e3' ht ⟨y1, y2, rfl, ea, hf, hl⟩
          refine g_tup2 (st_of ht) ?_
          have hkb : kB (addAll N1 ((N2.take i).map fun q => (q.1 + e, q.2))) cap.sum := addAll_kB g3 _ (fun r hr => by
            obtain ⟨r', hr', rfl⟩ := List.mem_map.mp hr
            have := g6 r' (List.mem_of_mem_take hr')
            show r'.1 + e ≤ _
            omega)
          have hndA := addAll_nd g2 ((N2.take i).map fun q => (q.1 + e, q.2))
          have hlen := nd_len hndA hkb
          refine s_dputA (d := d1) (k := q.1 + e) (c := q.2) (e3' _ _ hl) hndA (by omega) (ev_bin (ev_get0 (d := d1) (k := q.1 + e) (fun H1 e => e _ _ (e3' _ _ hl)) (ev_var rfl) (ev_is (ev_bin (ev_var rfl) (ev_var rfl)) ?_) ev_c) (ev_var rfl)) (ev_var rfl) (ev_is (ev_bin (ev_var rfl) (ev_var rfl)) ?_) (fun H4' e4' => ?_)
          · rw [Int.natCast_add]
          · rw [Int.natCast_add]
          · refine ⟨some (.int (q.1 : Int)), some (.int q.2), rfl, Ex.mut ((ea.trans e3').trans e4') hd1H, by rw [upd_ne hne]; exact e4' _ _ (e3' _ _ hf), ?_⟩
            rw [upd_same, List.take_succ, hiq]
            show _ = some (HO.dK (dkv (addAll N1 (((N2.take i) ++ [q]).map fun q => (q.1 + e, q.2)))))
            rw [List.map_append, List.map_singleton, addAll_snoc]
        · rintro σ' H' ⟨y1, y2, rfl, ea, hf, hl⟩
          rw [List.take_length] at hl
          exact s_ret (v := .ref d1) (ev_var rfl) (fun H10 e10 => k d1 _ H10 hd1H (ea.trans e10) (e10 _ _ hl) ⟨g4, addAll_nd g2 _, addAll_kB g3 _ (fun r hr => by
            obtain ⟨r', hr', rfl⟩ := List.mem_map.mp hr
            have := g6 r' hr'
            show r'.1 + e ≤ _
            omega)⟩)
end
end PLW
end
section
set_option Elab.async false
set_option linter.all false
set_option maxRecDepth 100000
set_option maxHeartbeats 2000000
namespace PLW
open PySem PySem.Spec PyProof.Rows L2 Evl RZ
open PL PySem.W SlX
/-! the two classes with slots -/
/-- what the top has written of the classes -/
structure Cl (K : PySem.W.Frag) (mg : Str → Option Value) : Prop where
  lotG : mg "Lot" = some (.ref (CL K))
  keptG : mg "KeptMembers" = some (.ref (CK K))
  sL : SCls K (CL K)
  sK : SCls K (CK K)
  iL : SIsi K (CL K)
  iK : SIsi K (CK K)
  l0 : ∃ p, Slot1 K (CL K) "own_letters" p 0
  l1 : ∃ p, Slot1 K (CL K) "own_members" p 1
  k0 : ∃ p, Slot1 K (CK K) "own_members" p 0
  mL : Mk K (CL K) (He.ma K (CL K) "__init__")
  mK : Mk K (CK K) (He.ma K (CK K) "__init__")
  kLL : PySem.W.kitOne K (.ref (CL K)) (.ref (CL K)) = some true
  kKK : PySem.W.kitOne K (.ref (CK K)) (.ref (CK K)) = some true
  kTK : PySem.W.kitOne K (.type "tuple") (.ref (CK K)) = some false
  fL : ∃ fd, FunD K "__init__" "Lot.__init__" (defArgs s_Lot_init) (defBody s_Lot_init) (defScope s_Lot_init) [] [] (He.ma K (CL K) "__init__") fd
  fK : ∃ fd, FunD K "__init__" "KeptMembers.__init__" (defArgs s_KeptMembers_init) (defBody s_KeptMembers_init) (defScope s_KeptMembers_init) [] [] (He.ma K (CK K) "__init__") fd
/-- a class's making, as its users need it -/
structure HasI (P : Program) (w : World) (K : PySem.W.Frag) (mg : Str → Option Value) (base : Heap) (x : Str) (ps : List Str) (k : Nat) (sp : Sp) : Prop where
  ex : ∃ fd, FnOk P w K mg base CX0 k (He.ma K (He.ga K x) "__init__") fd ps sp ∧ Binds K fd ps []
  mak : Mk K (He.ga K x) (He.ma K (He.ga K x) "__init__")
  gl : mg x = some (.ref (He.ga K x))
theorem pe_mk {X : Cx} {x : Str} {ps : List Str} {k : Nat} {sp : Sp} {e : Expr} {es : List Expr} {t : TA} {p pos : Pos} (h : HasI X.prog X.w X.K X.mg X.base x ps k sp) (hr : Room (k + 1) X.A) (hx : Passes CX0 X E0) (ha : PA X (e :: es) t)
    (hg : Gl X x := by rfl) (hdb : (x == ("__debug__" : Str)) = false := by decide) (he : starEach (e :: es) X.env = (false, eval e X.env) :: starEach es X.env := by rfl) (hpl : (backTo pos (starEach es X.env)).any (·.1) = false := by rfl) :
    PE X (.Call (.Name x p) (e :: es) [] pos) (tMake (He.ga X.K x) sp [] E0 t) := by
  obtain ⟨fd, F, b⟩ := h.ex
  exact pe_make h.mak F hr hg h.gl b .nil hx ha hdb he hpl
theorem slt_ex {H H' : Hp} {a C dx : Addr} {vs : List (Option V)} (e : Ex H H') (h : Slt H a C dx vs) : Slt H' a C dx vs := by
  rcases h with ⟨h1, h2⟩ | ⟨h1, h2⟩
  · exact .inl ⟨e _ _ h1, h2⟩
  · exact .inr ⟨e _ _ h1, e _ _ h2⟩
/-- a lot of n letters, its members told by R -/
def rLot (K : PySem.W.Frag) (n : Nat) (R : Rl) : Rl := fun H v => ∃ a dx m, v = .ref a ∧ Slt H a (CL K) dx [some (.int (n : Int)), some m] ∧ R H m
def rKept (K : PySem.W.Frag) (R : Rl) : Rl := fun H v => ∃ a dx m, v = .ref a ∧ Slt H a (CK K) dx [some m] ∧ R H m
theorem rLot_ex {K : PySem.W.Frag} {n : Nat} {R : Rl} (hs : Stb R) {H H' : Hp} {v : V} (e : Ex H H') : rLot K n R H v → rLot K n R H' v := fun ⟨a, dx, m, ev, h1, h2⟩ => ⟨a, dx, m, ev, slt_ex e h1, hs (Kp.ex e) h2⟩
theorem rKept_ex {K : PySem.W.Frag} {R : Rl} (hs : Stb R) {H H' : Hp} {v : V} (e : Ex H H') : rKept K R H v → rKept K R H' v := fun ⟨a, dx, m, ev, h1, h2⟩ => ⟨a, dx, m, ev, slt_ex e h1, hs (Kp.ex e) h2⟩
section
variable {K : PySem.W.Frag} {mg : Str → Option Value} {σ : L2.St} {H H' : Hp} {ta tb te tl td ty : TE} {D : Ends} {tz tu : TS} {i j n : Nat} {R : Rl} {t : TA} {g : TG}
/-- lot.own_letters, lot.own_members, kept.own_members -/
theorem ev_letters (C : Cl K mg) (h : EvP te σ H (rLot K n R)) : Ev (SlX.tSl K te "own_letters") σ H (.int (n : Int)) := fun H1 e Q q =>
  h H1 e _ fun v H2 e2 ⟨a, dx, m, ev, h1, h2⟩ => by
    obtain ⟨p, hp⟩ := C.l0
    exact ⟨a, _, dx, p, _, 0, _, ev, h1, C.sL, hp, rfl, q H2 e2⟩
theorem evp_members (C : Cl K mg) (h : EvP te σ H (rLot K n R)) : EvP (SlX.tSl K te "own_members") σ H R := fun H1 e Q q =>
  h H1 e _ fun v H2 e2 ⟨a, dx, m, ev, h1, h2⟩ => by
    obtain ⟨p, hp⟩ := C.l1
    exact ⟨a, _, dx, p, _, 1, _, ev, h1, C.sL, hp, rfl, q m H2 e2 h2⟩
theorem evp_kept (C : Cl K mg) (h : EvP te σ H (rKept K R)) : EvP (SlX.tSl K te "own_members") σ H R := fun H1 e Q q =>
  h H1 e _ fun v H2 e2 ⟨a, dx, m, ev, h1, h2⟩ => by
    obtain ⟨p, hp⟩ := C.k0
    exact ⟨a, _, dx, p, _, 0, _, ev, h1, C.sK, hp, rfl, q m H2 e2 h2⟩
theorem ev_isiKept (C : Cl K mg) (h : EvP te σ H (rKept K R)) : Ev (tCB (rIsiSl K (.ref (CK K))) (tCons te (tCons (tC (.ref (CK K))) tNil))) σ H (.bl true) := fun H1 e Q q =>
  h H1 e _ fun v H2 e2 ⟨a, dx, m, ev, h1, h2⟩ => ⟨a, CK K, dx, _, .ref (CK K), true, by rw [ev], rfl, fun w hw => hw, h1, C.sK, C.iK, C.kKK, q H2 e2⟩
theorem ev_isiLot (C : Cl K mg) (h : EvP te σ H (rLot K n R)) : Ev (tCB (rIsiSl K (.ref (CL K))) (tCons te (tCons (tC (.ref (CL K))) tNil))) σ H (.bl true) := fun H1 e Q q =>
  h H1 e _ fun v H2 e2 ⟨a, dx, m, ev, h1, h2⟩ => ⟨a, CL K, dx, _, .ref (CL K), true, by rw [ev], rfl, fun w hw => hw, h1, C.sL, C.iL, C.kLL, q H2 e2⟩
theorem ev_opNe {i j : Int} (ha : Ev ta σ H (.int i)) (hb : Ev tb σ H (.int j)) : Ev (tOp rNe ta tb) σ H (.bl (!decide (i = j))) := ev_is (ev_op ha hb (rv_ne rfl)) (by
  by_cases h : i = j
  · subst h; simp
  · rw [decide_eq_false h, decide_eq_false (fun z => h (V.int.inj z))])
theorem ei_wV {a : Addr} {m : List Nat} (h : Ev te σ H (.ref a)) (hm : SqT K H a (wV m)) : EvI (iTup K te) σ H rNat m := ei_tup rNat_stb fun H1 e Q q => h H1 e _ fun H2 e2 => q _ H2 e2 ⟨a, wV m, rfl, ex_t (e.trans e2) hm, wV_Pd m⟩
/-- two fresh addresses, the making's heap -/
def hMk (H : Hp) (x dx C : Addr) : Hp := upd (upd H dx (.own x)) x (.ins C dx [])
theorem hMk_ex {x dx C : Addr} (h1 : H x = none) (h2 : H dx = none) (h3 : dx ≠ x) : Ex H (hMk H x dx C) := (Ex.new h2).trans (Ex.new (by rw [upd_ne (Ne.symm h3)]; exact h1))
theorem kp_slH {a C dx : Addr} {vs vs' : List (Option V)} (h : Slt H a C dx vs) (hd : ∃ o, H dx = some o ∧ (∀ xs, o ≠ .tup xs) ∧ ∀ q xs, o ≠ .frz q (.tup xs)) (hne : dx ≠ a) : Kp H (slH H a C dx vs') := by
  obtain ⟨o, h1, h2, h3⟩ := hd
  refine Kp.trans (Kp.put (u := .xd []) h1 h2 h3) ?_
  rcases h with ⟨h4, _⟩ | ⟨h4, _⟩
  · exact Kp.put (o := .ins C dx []) (by rw [upd_ne (Ne.symm hne)]; exact h4) (fun _ z => by cases z) (fun _ _ z => by cases z)
  · exact Kp.put (o := SlO a C dx vs) (by rw [upd_ne (Ne.symm hne)]; exact h4) (fun _ z => by cases z) (fun _ _ z => by cases z)
/-- all but two addresses stand -/
theorem ex_slH {H0 : Hp} {a C dx : Addr} {vs : List (Option V)} (e : Ex H0 H) (h1 : H0 a = none) (h2 : H0 dx = none) : Ex H0 (slH H a C dx vs) := Ex.mut (Ex.mut e h2) h1
end
end PLW
end
section
set_option Elab.async false
set_option linter.all false
set_option maxRecDepth 100000
set_option maxHeartbeats 2000000
namespace PLW
open PySem PySem.Spec PyProof.Rows L2 Evl RZ
open PL PySem.W SlX
section
variable {P : Program} {w : World} {K : PySem.W.Frag} {mg : Str → Option Value} {base : Heap}
def sp_Kept (K : PySem.W.Frag) : Sp := fun vs H Q _ => ∃ x dx m H0, vs = [.ref x, m] ∧ H0 x = none ∧ H0 dx = none ∧ dx ≠ x ∧ H = hMk H0 x dx (CK K) ∧ ∀ H2, Ex H0 H2 → Kp H H2 → Slt H2 x (CK K) dx [some m] → Q .non H2
abbrev N_KeptMembers_init : List Str := ["self", "members"]
theorem sc_KeptMembers_init : FnScope N_KeptMembers_init ["self", "members"] (defScope s_KeptMembers_init) := ⟨rfl, rfl, rfl, by decide +kernel, rfl, by decide +kernel, by decide +kernel⟩
theorem has_Kept (C : Cl K mg) : HasI P w K mg base "KeptMembers" ["self", "members"] 1 (sp_Kept K) := by
  obtain ⟨fd, F⟩ := C.fK
  refine ⟨⟨fd, F.ok sc_KeptMembers_init (fun vs H Q E h => ?_) (fun cdv A outer s H vs Q E hr h => ?_), F.bindsN fun _ _ _ _ _ _ us hl => match us, hl with | [_, _], _ => rfl⟩, C.mK, C.keptG⟩
  · obtain ⟨x, dx, m, H0, rfl, _⟩ := h; rfl
  · obtain ⟨x, dx, m, H0, rfl, h1, h2, h3, rfl, k⟩ := h
    refine ⟨_, PSs.nox (pss_one (ps_sl (pv 0) (pv 1))), ?_⟩
    obtain ⟨p, hp⟩ := C.k0
    have hs : Slt (hMk H0 x dx (CK K)) x (CK K) dx [] := .inl ⟨upd_same, rfl⟩
    refine ⟨m, rfl, ⟨.ref x, rfl, x, CK K, dx, p, [], 0, rfl, hs, C.sK, hp, ?_⟩⟩
    refine k _ (ex_slH (hMk_ex h1 h2 h3) h1 h2) (kp_slH hs ⟨.own x, by unfold hMk; rw [upd_ne h3, upd_same], (fun _ z => by cases z), (fun _ _ z => by cases z)⟩ h3) (slH_slt h3)
theorem evp_mkKept {R : Rl} {σ : L2.St} {H : Hp} {ta : TE} (hs : Stb R) (h : EvP ta σ H R) : EvP (tMake (He.ga K "KeptMembers") (sp_Kept K) [] E0 (tCons ta tNil)) σ H (rKept K R) := fun H1 e Q q =>
  h H1 e _ fun v H2 e2 hv x dx hx hdx hne => ⟨x, dx, v, H2, rfl, hx, hdx, hne, rfl, fun H3 e3 kp sl => ⟨rfl, q _ H3 (e2.trans e3) ⟨x, dx, v, rfl, sl, hs (Kp.trans (Kp.ex (hMk_ex hx hdx hne)) kp) hv⟩⟩⟩
def sp_is_passed_member : Sp := spR fun vs H R => ∃ (n : Nat) (m : List Nat) (v : V), vs = [.int (n : Int), v] ∧ rWh m H v ∧ m.length = n ∧ n ≤ 8 ∧ (∀ k ∈ m, k ≤ 8) ∧ R = rBl true
abbrev N_is_passed_member : List Str := ["letters", "value", "exponent"]
theorem sc_is_passed_member : FnScope N_is_passed_member ["letters", "value"] (defScope s_is_passed_member) := ⟨rfl, rfl, rfl, by decide +kernel, rfl, by decide +kernel, by decide +kernel⟩
theorem has_is_passed_member (T : Tx K mg) : Has P w K mg base "is_passed_member" ["letters", "value"] 3 sp_is_passed_member := by
  have h_is_within : Has P w K mg base _ _ 2 sp_is_within := has_is_within T
  obtain ⟨_, m_MAX_MEMBER_EXPONENT⟩ := T.i_MAX_MEMBER_EXPONENT
  obtain ⟨fd, F⟩ := T.fn_is_passed_member
  refine ⟨⟨fd, F.ok sc_is_passed_member (fun vs H Q E h => ?_) (fun cdv A outer s H vs Q E hr h => ?_), F.bindsN fun _ _ _ _ _ _ us hl => match us, hl with | [_, _], _ => rfl⟩, F.kp, T.g_is_passed_member⟩
  · obtain ⟨R, ⟨n, m, v, rfl, _⟩, _⟩ := h; rfl
  · obtain ⟨R, ⟨n, m, v, rfl, ⟨a, rfl, ha⟩, hl, n8, hk, rfl⟩, k⟩ := h
    refine ⟨_, PSs.nox (pss_cons (ps_if (PW.pt (pw_or (pt_not (pt_val (pe_callB call_isi (by rfl) T.isinstance_ (by decide +kernel) (pa_cons (pv 1) (pa_cons (pe_bltn (v := .ty "tuple") (by rfl) T.tuple_ (by decide +kernel) rfl) pa_nil))))) (pw_or1 (pt_cmpR op_ne (pe_callB call_len_seq (by rfl) T.len_ (by decide +kernel) (pa_cons (pv 1) pa_nil)) (pv 0) (nomark _))))) (pss_one (ps_ret pe_bl)) pss_nil) (pss_one (ps_ret (pe_callB (cr_all rfl) (by rfl) T.all_ (by decide +kernel) (pa_cons (pe_lc (own := [("exponent", 2)]) rfl sc_is_passed_member.nd (pi_tup (pv 1)) (blkOk_by (own := [("exponent", 2)]) (N := N_is_passed_member) (sc := defScope s_is_passed_member) (by decide +kernel)) (by intro _ _ _ _ _; refine pg_nm (i := 2) ?_ ?_ ?_ ?_; exact sc_is_passed_member.nd; exact rfl; all_goals first | exact .inl rfl | exact .inr rfl) (fun _ _ _ _ _ => pts_nil) (by intro _ _ _ _ _; exact (pe_h h_is_within (hr.mono (by decide)) pass0 (pa_cons (pv 2) (pa_cons pe_int (pa_cons (pe_glob (v := .int 8) rfl m_MAX_MEMBER_EXPONENT ⟨_, rfl⟩) pa_nil)))))) pa_nil))))), ?_⟩
    refine q_when (b := !true || false) (et_or (et_not (et_test (ev_isi (ea_cons (ev_var rfl) (ea_cons ev_c ea_nil)) (.ty "tuple") (fun H1 e1 => .base (.tup (e1 _ _ ha))) (kit_ty (by decide +kernel))))) (fun _ => et_test (ev_is (ev_opNe (ev_is (ev_lenT (ev_var rfl) (st_of ha)) (by rw [wV_len, hl])) (ev_var rfl)) (by rw [decide_eq_true rfl]; rfl)))) (fun z => by cases z) (fun _ H1 e1 => ?_)
    refine s_ret (v := .bl true) (ev_is (ev_allL (bs := m.map fun _ => true) (evp_lc0 (R := rNat) (ei_wV (ev_var rfl) (st_of (e1 _ _ ha))) rBl_stb (by omega) gm_name ?_)) ?_) (fun H2 e2 => k _ H2 (e1.trans e2) rfl)
    · intro q x H2 e2 hq hx
      have hx2 : x = V.int (q : Int) := hx
      subst hx2
      have := hk q hq
      refine ⟨rfl, rfl, (evp_call (ea_cons (ev_var rfl) (ea_cons ev_c (ea_cons ev_c ea_nil))) (SpP.of fun H3 _ => ⟨(q : Int), 0, 8, rfl, ?_⟩))⟩
      rw [decide_eq_true (show (0 : Int) ≤ (q : Int) by omega), decide_eq_true (show (q : Int) ≤ 8 by omega)]
      rfl
    · congr 1
      have : ∀ l : List Nat, (l.map fun _ => true).all id = true := fun l => by simp
      exact this m
def sp_told_kept (K : PySem.W.Frag) : Sp := spR fun vs H R => ∃ (n : Nat) (v : V), vs = [.int (n : Int), v] ∧ Stb R ∧ rKept K R H v
abbrev N_members_told : List Str := ["letters", "members", "member"]
theorem sc_members_told : FnScope N_members_told ["letters", "members"] (defScope s_members_told) := ⟨rfl, rfl, rfl, by decide +kernel, rfl, by decide +kernel, by decide +kernel⟩
theorem has_told_kept (T : Tx K mg) (C : Cl K mg) : Has P w K mg base "members_told" ["letters", "members"] 1 (sp_told_kept K) := by
  obtain ⟨fd, F⟩ := T.fn_members_told
  refine ⟨⟨fd, F.ok sc_members_told (fun vs H Q E h => ?_) (fun cdv A outer s H vs Q E hr h => ?_), F.bindsN fun _ _ _ _ _ _ us hl => match us, hl with | [_, _], _ => rfl⟩, F.kp, T.g_members_told⟩
  · obtain ⟨R, ⟨n, v, rfl, _⟩, _⟩ := h; rfl
  · obtain ⟨R, ⟨n, v, rfl, hs, hv⟩, k⟩ := h
    refine ⟨_, PSs.nox (pss_cons (ps_if (pt_val (pe_callB (call_isiSl (.ref (CK K))) (by rfl) T.isinstance_ (by decide +kernel) (pa_cons (pv 1) (pa_cons (pe_glob (v := .ref (CK K)) rfl C.keptG rfl) pa_nil)))) (pss_one (ps_ret (pe_sl (pv 1)))) pss_nil) pss_never), ?_⟩
    refine q_when (b := true) (et_test (ev_isiKept C (evp_var (R := rKept K R) rfl fun H1 e1 => rKept_ex (R := R) hs e1 hv))) (fun _ H1 e1 => ?_) (fun z => by cases z)
    exact s_retP (evp_kept C (evp_var (R := rKept K R) rfl fun H2 e2 => rKept_ex (R := R) hs (e1.trans e2) hv)) (fun u H2 e2 hu => k u H2 (e1.trans e2) hu)
def sp_told_tup (K : PySem.W.Frag) : Sp := spR fun vs H R => ∃ (n : Nat) (a : Addr) (xs : List V) (ms : List (List Nat)), vs = [.int (n : Int), .ref a] ∧ H a = some (.tup xs) ∧ Pd rWh H xs ms ∧ (∀ x ∈ ms, x.length = n ∧ ∀ k ∈ x, k ≤ 8) ∧ 1 ≤ n ∧ n ≤ 8 ∧ ms.length ≤ 24 ∧ R = fun H v => ∃ ls, Least ms ls ∧ rTs K (rW K) ls H v
theorem has_told_tup (T : Tx K mg) (C : Cl K mg) : Has P w K mg base "members_told" ["letters", "members"] 4 (sp_told_tup K) := by
  have h_is_passed_member : Has P w K mg base _ _ 3 sp_is_passed_member := has_is_passed_member T
  have h_few_least_of : Has P w K mg base _ _ 3 (sp_few_least_of K) := has_few_least_of T
  obtain ⟨_, m_MAX_PASSED⟩ := T.i_MAX_PASSED
  obtain ⟨fd, F⟩ := T.fn_members_told
  refine ⟨⟨fd, F.ok sc_members_told (fun vs H Q E h => ?_) (fun cdv A outer s H vs Q E hr h => ?_), F.bindsN fun _ _ _ _ _ _ us hl => match us, hl with | [_, _], _ => rfl⟩, F.kp, T.g_members_told⟩
  · obtain ⟨R, ⟨n, a, xs, ms, rfl, _⟩, _⟩ := h; rfl
  · obtain ⟨R, ⟨n, a, xs, ms, rfl, ha, pd, hx, n1, n8, hm, rfl⟩, k⟩ := h
    refine ⟨_, PSs.nox (pss_cons (ps_if (pt_val (pe_callB call_isi (by rfl) T.isinstance_ (by decide +kernel) (pa_cons (pv 1) (pa_cons (pe_glob (v := .ref (CK K)) rfl C.keptG rfl) pa_nil)))) (pss_one (ps_ret (pe_sl (pv 1)))) pss_nil) (pss_cons (ps_if (PW.pt (pw_or (pt_not (pt_val (pe_callB call_isi (by rfl) T.isinstance_ (by decide +kernel) (pa_cons (pv 1) (pa_cons (pe_bltn (v := .ty "tuple") (by rfl) T.tuple_ (by decide +kernel) rfl) pa_nil))))) (pw_or1 (pt_cmpR op_gt (pe_callB call_len_seq (by rfl) T.len_ (by decide +kernel) (pa_cons (pv 1) pa_nil)) (pe_glob (v := .int 200) rfl m_MAX_PASSED ⟨_, rfl⟩) (nomark _))))) (pss_one ps_never) pss_nil) (pss_cons (ps_if (pt_not (pt_val (pe_callB (cr_all rfl) (by rfl) T.all_ (by decide +kernel) (pa_cons (pe_lc (own := [("member", 2)]) rfl sc_members_told.nd (pi_tup (pv 1)) (blkOk_by (own := [("member", 2)]) (N := N_members_told) (sc := defScope s_members_told) (by decide +kernel)) (by intro _ _ _ _ _; refine pg_nm (i := 2) ?_ ?_ ?_ ?_; exact sc_members_told.nd; exact rfl; all_goals first | exact .inl rfl | exact .inr rfl) (fun _ _ _ _ _ => pts_nil) (by intro _ _ _ _ _; exact (pe_h h_is_passed_member (hr.mono (by decide)) pass0 (pa_cons (pv 0) (pa_cons (pv 2) pa_nil))))) pa_nil)))) (pss_one ps_never) pss_nil) (pss_one (ps_ret (pe_h h_few_least_of (hr.mono (by decide)) pass0 (pa_cons (pv 1) pa_nil))))))), ?_⟩
    refine q_when (b := false) (et_test (ev_isi (ea_cons (ev_var rfl) (ea_cons ev_c ea_nil)) (.own (CK K)) (fun H1 e1 => .base (.tup (e1 _ _ ha))) C.kTK)) (fun z => by cases z) (fun _ H1 e1 => ?_)
    refine q_when (b := !true || false) (et_or (et_not (et_test (ev_isi (ea_cons (ev_var rfl) (ea_cons ev_c ea_nil)) (.ty "tuple") (fun H2 e2 => .base (.tup ((e1.trans e2) _ _ ha))) (kit_ty (by decide +kernel))))) (fun _ => et_is (et_test (ev_cmp (ev_lenT (ev_var rfl) (st_of (e1 _ _ ha))) ev_c)) (decide_eq_false (by rw [pd.1]; omega)))) (fun z => by cases z) (fun _ H2 e2 => ?_)
    have e12 := e1.trans e2
    refine q_when (b := !true) (et_not (et_test (ev_is (ev_allL (bs := ms.map fun _ => true) (evp_lc0 (ei_tup (R := rWh) rWh_stb (evp_var rfl fun H3 e3 => ⟨a, xs, rfl, st_of ((e12.trans e3) _ _ ha), pd.keep rWh_stb (Kp.ex (e12.trans e3))⟩)) rBl_stb (by omega) gm_name ?_)) ?_))) (fun z => by cases z) (fun _ H3 e3 => ?_)
    · intro x u H3 e3 hxm hu
      exact ⟨rfl, rfl, evp_call (ea_cons (ev_var rfl) (ea_cons (ev_var rfl) ea_nil)) (SpP.of fun H4 e4 => ⟨n, x, u, rfl, rWh_stb x (Kp.ex e4) hu, (hx x hxm).1, n8, (hx x hxm).2, rfl⟩)⟩
    · congr 1
      have : ∀ l : List (List Nat), (l.map fun _ => true).all id = true := fun l => by simp
      exact this ms
    · have e13 := e12.trans e3
      exact s_retP (evp_call (ea_cons (ev_var rfl) ea_nil) (SpP.of fun H4 e4 => ⟨ms, n, a, xs, rfl, .inr (st_of ((e13.trans e4) _ _ ha)), pd.keep rWh_stb (Kp.ex (e13.trans e4)), fun x hxm => ⟨(hx x hxm).1, fun k hk => by have := (hx x hxm).2 k hk; omega⟩, n1, n8, hm, rfl⟩)) (fun u H4 e4 hu => k u H4 (e13.trans e4) hu)
/-- Lot.__init__, by what members_told is told (A) -/
def sp_Lot (K : PySem.W.Frag) (A : List V → Hp → Rl → Prop) : Sp := fun vs H Q _ => ∃ x dx m n H0 R, vs = [.ref x, .int ((n : Nat) : Int), m] ∧ H0 x = none ∧ H0 dx = none ∧ dx ≠ x ∧ H = hMk H0 x dx (CL K) ∧ 1 ≤ n ∧ n ≤ 8 ∧ Stb R ∧ (∀ H1, Ex H H1 → A [.int ((n : Nat) : Int), m] H1 R) ∧ ∀ H2 u, Ex H0 H2 → Slt H2 x (CL K) dx [some (.int ((n : Nat) : Int)), some u] → R H2 u → Q .non H2
abbrev N_Lot_init : List Str := ["self", "letters", "members"]
theorem sc_Lot_init : FnScope N_Lot_init ["self", "letters", "members"] (defScope s_Lot_init) := ⟨rfl, rfl, rfl, by decide +kernel, rfl, by decide +kernel, by decide +kernel⟩
theorem has_Lot (T : Tx K mg) (C : Cl K mg) {k0 : Nat} {A : List V → Hp → Rl → Prop} (h_members_told : Has P w K mg base "members_told" ["letters", "members"] k0 (spR A)) : HasI P w K mg base "Lot" ["self", "letters", "members"] (k0 + 5) (sp_Lot K A) := by
  have h_require_letters : Has P w K mg base _ _ 4 sp_require_letters := has_require_letters T
  obtain ⟨fd, F⟩ := C.fL
  refine ⟨⟨fd, F.ok sc_Lot_init (fun vs H Q E h => ?_) (fun cdv A' outer s H vs Q E hr h => ?_), F.bindsN fun _ _ _ _ _ _ us hl => match us, hl with | [_, _, _], _ => rfl⟩, C.mL, C.lotG⟩
  · obtain ⟨x, dx, m, n, H0, R, rfl, _⟩ := h; rfl
  · obtain ⟨x, dx, m, n, H0, R, rfl, h1, h2, h3, rfl, n1, n8, hst, hA, k⟩ := h
    refine ⟨_, PSs.nox (pss_cons (ps_expr (pe_h h_require_letters (hr.mono (by omega)) pass0 (pa_cons (pv 1) pa_nil))) (pss_cons (ps_sl (pv 0) (pe_h h_members_told (hr.mono (by omega)) pass0 (pa_cons (pv 1) (pa_cons (pv 2) pa_nil)))) (pss_one (ps_sl (pv 0) (pv 1))))), ?_⟩
    obtain ⟨p0, hp0⟩ := C.l0
    obtain ⟨p1, hp1⟩ := C.l1
    refine q_drop (v := .non) (evp_call (ea_cons (ev_var rfl) ea_nil) (SpP.of fun H1 _ => ⟨(n : Int), rfl, by omega, by omega, rfl⟩)).ev (fun H1 e1 => ?_)
    refine evp_call (R := R) (σ := [some (.ref x), some (.int ((n : Nat) : Int)), some m]) (H := H1) (ea_cons (ev_var (i := 1) rfl) (ea_cons (ev_var (i := 2) rfl) ea_nil)) (SpP.of fun H2 e2 => hA H2 (e1.trans e2)) H1 (Ex.refl H1) _ (fun u H2 e2 hu => ?_)
    have hs0 : Slt (hMk H0 x dx (CL K)) x (CL K) dx [] := .inl ⟨upd_same, rfl⟩
    have hs2 := slt_ex (e1.trans e2) hs0
    have hdx : hMk H0 x dx (CL K) dx = some (.own x) := by unfold hMk; rw [upd_ne h3, upd_same]
    have kp := kp_slH (vs' := putS 1 u []) hs2 ⟨.own x, (e1.trans e2) _ _ hdx, (fun _ z => by cases z), (fun _ _ z => by cases z)⟩ h3
    have hs3 : Slt (slH H2 x (CL K) dx (putS 1 u [])) x (CL K) dx (putS 1 u []) := slH_slt h3
    refine ⟨.ref x, rfl, x, CL K, dx, p1, [], 1, rfl, hs2, C.sL, hp1, ?_⟩
    refine ⟨.int ((n : Nat) : Int), rfl, .ref x, rfl, x, CL K, dx, p0, _, 0, rfl, hs3, C.sL, hp0, ?_⟩
    have e02 : Ex H0 H2 := (hMk_ex h1 h2 h3).trans (e1.trans e2)
    have kp2 := kp_slH (vs' := putS 0 (.int ((n : Nat) : Int)) (putS 1 u [])) hs3 ⟨.xd [], by unfold slH; rw [upd_ne h3, upd_same], (fun _ z => by cases z), (fun _ _ z => by cases z)⟩ h3
    exact k _ u (ex_slH (ex_slH e02 h1 h2) h1 h2) (slH_slt h3) (hst (Kp.trans kp kp2) hu)
theorem evp_mkLot {A : List V → Hp → Rl → Prop} {R : Rl} {n : Nat} {σ : L2.St} {H : Hp} {ta tb : TE} {R2 : Rl} (n1 : 1 ≤ n) (n8 : n ≤ 8) (hs : Stb R) (h1 : Ev ta σ H (.int (n : Int))) (h2 : EvP tb σ H R2) (hA : ∀ v H1 H2, Ex H H1 → R2 H1 v → Ex H1 H2 → A [.int (n : Int), v] H2 R) :
    EvP (tMake (He.ga K "Lot") (sp_Lot K A) [] E0 (tCons ta (tCons tb tNil))) σ H (rLot K n R) := fun H1 e Q q =>
  h1 H1 e _ fun H2 e2 => h2 H2 (e.trans e2) _ fun v H3 e3 hv x dx hx hdx hne => ⟨x, dx, v, n, H3, R, rfl, hx, hdx, hne, rfl, n1, n8, hs, fun H4 e4 => hA v H3 H4 ((e.trans e2).trans e3) hv ((hMk_ex hx hdx hne).trans e4), fun H4 u e4 sl hu => ⟨rfl, q _ H4 ((e2.trans e3).trans e4) ⟨x, dx, u, rfl, sl, hu⟩⟩⟩
end
end PLW
end
section
set_option Elab.async false
set_option linter.all false
set_option maxRecDepth 100000
set_option maxHeartbeats 2000000
namespace PLW
open PySem PySem.Spec PyProof.Rows L2 Evl RZ
open PL PySem.W SlX
theorem rLot_get {K : PySem.W.Frag} {n : Nat} {ms : List (List Nat)} {H : Hp} {v : V} : rLot K n (fun H v => ∃ ls, Least ms ls ∧ rTs K (rW K) ls H v) H v → ∃ ls, Least ms ls ∧ rLot K n (rTs K (rW K) ls) H v := fun ⟨a, dx, m, ev, h1, ls, h2, h3⟩ => ⟨ls, h2, a, dx, m, ev, h1, h3⟩
theorem rLs_stb (K : PySem.W.Frag) (ls : List (List Nat)) : Stb (rTs K (rW K) ls) := by
  intro H H' v k h
  exact rTs_stb (rW_stb K) k h
/-- a lot whose members are ls -/
def rLo (K : PySem.W.Frag) (n : Nat) (ls : List (List Nat)) : Rl := rLot K n (rTs K (rW K) ls)
theorem rLo_ex {K : PySem.W.Frag} {n : Nat} {ls : List (List Nat)} {H H' : Hp} {v : V} (e : Ex H H') (h : rLo K n ls H v) : rLo K n ls H' v := rLot_ex (R := rTs K (rW K) ls) (rLs_stb K ls) e h
/-! the numerator put in order -/
def srt (N : Nm) : List Nat := (N.map Prod.fst).mergeSort (fun a b => decide (a ≤ b))
theorem srt_perm (N : Nm) : (srt N).Perm (N.map Prod.fst) := List.mergeSort_perm _ _
theorem srt_asc (N : Nm) : (srt N).Pairwise (· ≤ ·) := by
  have h : (srt N).Pairwise fun a b => decide (a ≤ b) = true := by
    unfold srt
    refine List.pairwise_mergeSort (fun a b c h1 h2 => ?_) (fun a b => ?_) _
    · exact decide_eq_true (Nat.le_trans (of_decide_eq_true h1) (of_decide_eq_true h2))
    · rcases Nat.le_total a b with c | c <;> simp [c]
  exact h.imp fun {a b} h => of_decide_eq_true h
def tidy (N : Nm) : Nm := ((srt N).filter fun k => decide ((gv N k).getD 0 ≠ 0)).map fun k => (k, (gv N k).getD 0)
theorem srt_nodup {N : Nm} (h : nd N) : (srt N).Nodup := (srt_perm N).nodup_iff.mpr h
theorem tidy_canon {N : Nm} (h : nd N) : Canon (tidy N) where
  asc := by
    unfold tidy
    rw [List.pairwise_map]
    refine List.Pairwise.filter _ ?_
    have h1 := srt_asc N
    have h2 := srt_nodup h
    exact (h1.and h2).imp fun {a b} ⟨x, y⟩ => by show a < b; omega
  nz := fun p hp => by
    obtain ⟨k, hk, rfl⟩ := List.mem_map.mp hp
    exact of_decide_eq_true (List.mem_filter.mp hk).2
theorem int_perm {l l' : List Int} (h : l.Perm l') : l.sum = l'.sum := by
  induction h with
  | nil => rfl
  | cons x _ ih => simp [ih]
  | swap x y l => simp; omega
  | trans _ _ a b => exact a.trans b
theorem tidy_sum {N : Nm} (h : nd N) (n d : Nat) : nsum n (tidy N) d = nsum n N d := by
  have h1 : ∀ l : List Nat, ((((l.filter fun k => decide ((gv N k).getD 0 ≠ 0)).map fun k => (k, (gv N k).getD 0)) : Nm).map (term n d)).sum = (l.map fun k => term n d (k, (gv N k).getD 0)).sum := by
    intro l
    induction l with
    | nil => rfl
    | cons k l ih =>
      by_cases c : (gv N k).getD 0 = 0
      · rw [List.filter_cons_of_neg (by simpa using c), ih, List.map_cons, List.sum_cons]
        have : term n d (k, (gv N k).getD 0) = 0 := by unfold term; rw [c]; simp
        rw [this, Int.zero_add]
      · rw [List.filter_cons_of_pos (by simpa using c), List.map_cons, List.map_cons, List.sum_cons, ih, List.map_cons, List.sum_cons]
  show ((tidy N).map (term n d)).sum = (N.map (term n d)).sum
  unfold tidy
  rw [h1, int_perm ((srt_perm N).map fun k => term n d (k, (gv N k).getD 0)), List.map_map]
  congr 1
  refine List.map_congr_left fun p hp => ?_
  show term n d (p.1, (gv N p.1).getD 0) = term n d p
  rw [gv_mem h hp]
  rfl
theorem tidy_kB {N : Nm} {B : Nat} (h : kB N B) : kB (tidy N) B := fun p hp => by
  obtain ⟨k, hk, rfl⟩ := List.mem_map.mp hp
  obtain ⟨q, hq, e⟩ := List.mem_map.mp ((srt_perm N).mem_iff.mp (List.mem_filter.mp hk).1)
  rw [← e]
  exact h q hq
theorem canon_nd {N : Nm} (h : Canon N) : nd N := by
  unfold nd
  refine List.pairwise_map.mpr (h.asc.imp fun {p q} z => ?_)
  exact Nat.ne_of_lt z
theorem num_tidy {n : Nat} {ms : List (List Nat)} {N : Nm} (h : Num n ms N) (hn : nd N) : Num n ms (tidy N) := fun d => by rw [tidy_sum hn, h d]
theorem left_nn (n : Nat) (ms : List (List Nat)) (d : Nat) : left n ms d ≤ nn n d := Nat.sub_le _ _
section
variable {K : PySem.W.Frag} {mg : Str → Option Value} {σ : L2.St} {H H' : Hp} {ta tb tc te tl td ty : TE} {D : Ends} {tz tu : TS} {i j n : Nat} {R R' : Rl} {t : TA} {g : TG}
theorem evp_call3m {pre : List V → Hp → Rl → Prop} {x z : V} (h1 : Ev ta σ H x) (h2 : EvP tb σ H R) (h3 : Ev tc σ H z) (hs : ∀ v H1 H2, Ex H H1 → Ex H1 H2 → R H1 v → pre [x, v, z] H2 R') : EvP (tCall (spR pre) [] E0 (tCons ta (tCons tb (tCons tc tNil)))) σ H R' := fun H1 e Q q =>
  h1 H1 e _ fun H2 e2 => h2 H2 (e.trans e2) _ fun v H3 e3 hv => h3 H3 ((e.trans e2).trans e3) _ fun H4 e4 => ⟨R', hs v H3 H4 ((e.trans e2).trans e3) e4 hv, fun u H5 e5 hu => q u H5 (((e2.trans e3).trans e4).trans e5) hu⟩
def rSDI : List V → Hp → VK → Prop := fun xs H Q => ∃ (a : Addr) (kvs : List (Key × V)) (ks : List Int), xs = [.ref a] ∧ Rd H a (.dK kvs) ∧ kvs.map (·.1) = ks.map Sum.inl ∧ ks.length < 64 ∧ ∀ (ys : List Int) (p : Addr), ys.Perm ks → ys.Pairwise (· ≤ ·) → H p = none → Q (.ref p) (upd H p (.lst (ys.map V.int)))
theorem evp_srt {d : Addr} {N : Nm} (h : Ev te σ H (.ref d)) (hd : ∀ H1, Ex H H1 → H1 d = some (.dK (dkv N))) (hn : nd N) (hl : N.length < 64) : EvP (tCB rSDI (tCons te tNil)) σ H (rL K rNat (srt N)) := fun H1 e Q q =>
  h H1 e _ fun H2 e2 => ⟨d, dkv N, (N.map Prod.fst).map fun k : Nat => (k : Int), rfl, .inl (hd H2 (e.trans e2)), by unfold dkv; rw [List.map_map, List.map_map, List.map_map]; rfl, by rw [List.length_map, List.length_map]; exact hl, fun ys p hp ha hnew => by
    have hys : ys = (srt N).map fun k : Nat => (k : Int) := by
      have nodI : ((N.map Prod.fst).map fun k : Nat => (k : Int)).Nodup := by
        refine List.pairwise_map.mpr (List.Pairwise.imp (fun {a b} h z => h (by omega)) hn)
      refine same_asc (le := fun a b : Int => a ≤ b) (fun h1 h2 => Int.le_antisymm h1 h2) ha ?_ (hp.nodup_iff.mpr nodI) ?_ (fun x => ?_)
      · rw [List.pairwise_map]
        exact (srt_asc N).imp fun {a b} h => by omega
      · refine List.pairwise_map.mpr (List.Pairwise.imp (fun {a b} h z => h (by omega)) (srt_nodup hn))
      · rw [hp.mem_iff]
        exact (((srt_perm N).map fun k : Nat => (k : Int)).mem_iff).symm
    subst hys
    refine q _ _ (e2.trans (Ex.new hnew)) ⟨p, _, rfl, sq_of upd_same, ?_⟩
    rw [List.map_map]
    exact wV_Pd (srt N)⟩
end
section
variable {P : Program} {w : World} {K : PySem.W.Frag} {mg : Str → Option Value} {base : Heap}
def sp_made_lot (K : PySem.W.Frag) : Sp := spR fun vs H R => ∃ (ms : List (List Nat)) (n : Nat) (a : Addr) (xs : List V), vs = [.int (n : Int), .ref a] ∧ (SqL K H a xs ∨ SqT K H a xs) ∧ Pd rWh H xs ms ∧ (∀ x ∈ ms, x.length = n ∧ ∀ k ∈ x, k ≤ 60) ∧ 1 ≤ n ∧ n ≤ 8 ∧ ms.length ≤ 24 ∧ R = fun H v => ∃ ls, Least ms ls ∧ rLo K n ls H v
abbrev N_made_lot : List Str := ["letters", "products"]
theorem sc_made_lot : FnScope N_made_lot ["letters", "products"] (defScope s_made_lot) := ⟨rfl, rfl, rfl, by decide +kernel, rfl, by decide +kernel, by decide +kernel⟩
theorem has_made_lot (T : Tx K mg) (C : Cl K mg) : Has P w K mg base "made_lot" ["letters", "products"] 8 (sp_made_lot K) := by
  have h_few_least_of : Has P w K mg base _ _ 3 (sp_few_least_of K) := has_few_least_of T
  have h_KeptMembers : HasI P w K mg base _ _ 1 (sp_Kept K) := has_Kept C
  have h_Lot : HasI P w K mg base _ _ 6 (sp_Lot K fun vs H R => ∃ (n : Nat) (v : V), vs = [.int (n : Int), v] ∧ Stb R ∧ rKept K R H v) := has_Lot T C (has_told_kept T C)
  obtain ⟨fd, F⟩ := T.fn_made_lot
  refine ⟨⟨fd, F.ok sc_made_lot (fun vs H Q E h => ?_) (fun cdv A outer s H vs Q E hr h => ?_), F.bindsN fun _ _ _ _ _ _ us hl => match us, hl with | [_, _], _ => rfl⟩, F.kp, T.g_made_lot⟩
  · obtain ⟨R, ⟨ms, n, a, xs, rfl, _⟩, _⟩ := h; rfl
  · obtain ⟨R, ⟨ms, n, a, xs, rfl, ha, pd, hx, n1, n8, hm, rfl⟩, k⟩ := h
    refine ⟨_, PSs.nox (pss_one (ps_ret (pe_mk h_Lot (hr.mono (by decide)) pass0 (pa_cons (pv 0) (pa_cons (pe_mk h_KeptMembers (hr.mono (by decide)) pass0 (pa_cons (pe_h h_few_least_of (hr.mono (by decide)) pass0 (pa_cons (pv 1) pa_nil)) pa_nil)) pa_nil))))), ?_⟩
    have hst : Stb (fun H v => ∃ ls, Least ms ls ∧ rTs K (rW K) ls H v) := by
      intro H H' v k ⟨ls, h1, h2⟩
      exact ⟨ls, h1, rTs_stb (rW_stb K) k h2⟩
    refine s_retP (R := rLot K n fun H v => ∃ ls, Least ms ls ∧ rTs K (rW K) ls H v) (evp_mkLot n1 n8 (R2 := rKept K fun H v => ∃ ls, Least ms ls ∧ rTs K (rW K) ls H v) hst (ev_var rfl) (evp_mkKept hst (evp_call (ea_cons (ev_var rfl) ea_nil) (SpP.of fun H1 e1 => ⟨ms, n, a, xs, rfl, ha.elim (fun x => .inl (ex_l e1 x)) (fun x => .inr (ex_t e1 x)), pd.keep rWh_stb (Kp.ex e1), hx, n1, n8, hm, rfl⟩))) (fun v H1 H2 e1 hv e2 => ⟨n, v, rfl, hst, rKept_ex (R := fun H v => ∃ ls, Least ms ls ∧ rTs K (rW K) ls H v) hst e2 hv⟩)) (fun v H1 e1 hv => k v H1 e1 (rLot_get hv))
def sp_require_lot (K : PySem.W.Frag) : Sp := spR fun vs H R => ∃ (n : Nat) (ls : List (List Nat)) (v : V), vs = [v] ∧ rLo K n ls H v ∧ R = fun _ v => v = .non
abbrev N_require_lot : List Str := ["value"]
theorem sc_require_lot : FnScope N_require_lot ["value"] (defScope s_require_lot) := ⟨rfl, rfl, rfl, by decide +kernel, rfl, by decide +kernel, by decide +kernel⟩
theorem has_require_lot (T : Tx K mg) (C : Cl K mg) : Has P w K mg base "require_lot" ["value"] 1 (sp_require_lot K) := by
  obtain ⟨fd, F⟩ := T.fn_require_lot
  refine ⟨⟨fd, F.ok sc_require_lot (fun vs H Q E h => ?_) (fun cdv A outer s H vs Q E hr h => ?_), F.bindsN fun _ _ _ _ _ _ us hl => match us, hl with | [_], _ => rfl⟩, F.kp, T.g_require_lot⟩
  · obtain ⟨R, ⟨n, ls, v, rfl, _⟩, _⟩ := h; rfl
  · obtain ⟨R, ⟨n, ls, v, rfl, hv, rfl⟩, k⟩ := h
    refine ⟨_, PSs.nox (pss_one (ps_if (pt_not (pt_val (pe_callB (call_isiSl (.ref (CL K))) (by rfl) T.isinstance_ (by decide +kernel) (pa_cons (pv 0) (pa_cons (pe_glob (v := .ref (CL K)) rfl C.lotG rfl) pa_nil))))) (pss_one ps_never) pss_nil)), ?_⟩
    exact s_when (b := !true) (et_not (et_test (ev_isiLot C (evp_var (R := rLot K n (rTs K (rW K) ls)) rfl fun H1 e1 => rLo_ex e1 hv)))) (fun z => by cases z) (fun _ H1 e1 => k _ H1 e1 rfl)
/-- lots that are asked of: few letters, members not long -/
structure Fine (n : Nat) (ls : List (List Nat)) : Prop where
  n1 : 1 ≤ n
  n4 : n ≤ 4
  len : ∀ x ∈ ls, x.length = n ∧ ∀ k ∈ x, k ≤ 8
  few : ls.length ≤ 24
  low : sumsW ls ≤ 200
theorem dv_cap {n : Nat} : ∀ {x : List Nat}, x.length = n → (∀ k ∈ x, k ≤ 8) → dv x (List.replicate n 8) = true := by
  induction n with
  | zero => intro x h _; cases x with
    | nil => rfl
    | cons a x => simp at h
  | succ n ih =>
    intro x h hk
    cases x with
    | nil => simp at h
    | cons a x =>
      rw [List.replicate_succ]
      simp only [dv, Bool.and_eq_true, decide_eq_true_eq]
      exact ⟨hk a (by simp), ih (by simpa using h) fun k hk' => hk k (by simp [hk'])⟩
def sp_numerator_in (K : PySem.W.Frag) : Sp := spD fun vs H G => ∃ (n : Nat) (ls : List (List Nat)) (v : V), vs = [v] ∧ rLo K n ls H v ∧ Fine n ls ∧ G = fun N => Num n ls N ∧ Canon N ∧ kB N 32
abbrev N_numerator_in : List Str := ["lot", "found", "degree"]
theorem sc_numerator_in : FnScope N_numerator_in ["lot"] (defScope s_numerator_in) := ⟨rfl, rfl, rfl, by decide +kernel, rfl, by decide +kernel, by decide +kernel⟩
theorem has_numerator_in (T : Tx K mg) (C : Cl K mg) : Has P w K mg base "numerator_in" ["lot"] 204 (sp_numerator_in K) := by
  have h_numerator_of : Has P w K mg base _ _ 203 (sp_numerator_of K 200) := has_numerator_of T 200
  obtain ⟨fd, F⟩ := T.fn_numerator_in
  refine ⟨⟨fd, F.ok sc_numerator_in (fun vs H Q E h => ?_) (fun cdv A outer s H vs Q E hr h => ?_), F.bindsN fun _ _ _ _ _ _ us hl => match us, hl with | [_], _ => rfl⟩, F.kp, T.g_numerator_in⟩
  · obtain ⟨R, ⟨n, ls, v, rfl, _⟩, _⟩ := h; rfl
  · obtain ⟨G, ⟨n, ls, v, rfl, hv, hf, rfl⟩, k⟩ := h
    refine ⟨_, PSs.nox (pss_cons (ps_set (i := 1) sc_numerator_in.nd rfl (Or.inr rfl) (pe_h h_numerator_of (hr.mono (by decide)) pass0 (pa_cons (pe_sl (pv 0)) pa_nil))) (pss_one (ps_ret (pe_dc (own := [("degree", 2)]) rfl sc_numerator_in.nd (pi_list (pe_callB (call_sortedDI rfl) (by rfl) T.sorted_ (by decide +kernel) (pa_cons (pv 1) pa_nil))) (blkOk_by (own := [("degree", 2)]) (N := N_numerator_in) (sc := defScope s_numerator_in) (by decide +kernel)) (by intro _ _ _ _ _; refine pg_nm (i := 2) ?_ ?_ ?_ ?_; exact sc_numerator_in.nd; exact rfl; all_goals first | exact .inl rfl | exact .inr rfl) (by intro _ _ _ _ _; exact pts_one (pt_cmpR op_ne (pe_dget (hu_of hr) (pv 1) (pv 2) (fun _ _ => rfl)) pe_int (nomark _))) (by intro _ _ _ _ _; exact (pv 2)) (by intro _ _ _ _ _; exact (pe_dget (hu_of hr) (pv 1) (pv 2) (fun _ _ => rfl))))))), ?_⟩
    have n1 := hf.n1
    have n4 := hf.n4
    have hcs : (List.replicate n 8).sum ≤ 32 := by rw [List.sum_replicate_nat]; omega
    refine q_asgD (G := fun N => Num n ls N ∧ nd N ∧ kB N (List.replicate n 8).sum) (evd_call1 (R := rTs K (rW K) ls) (evp_members C (evp_var (R := rLot K n (rTs K (rW K) ls)) rfl fun H1 e1 => rLo_ex e1 hv)) (fun u H1 e1 hu => ⟨ls, n, List.replicate n 8, u, rfl, hu, fun x hx => ⟨(hf.len x hx).1, dv_cap (hf.len x hx).1 (hf.len x hx).2⟩, List.length_replicate, by omega, n1, by omega, by have := hf.few; omega, hf.low, by have := hf.low; omega, rfl⟩)) (fun d N H1 hd e1 h1 ⟨g1, g2, g3⟩ => ?_)
    have hlen := nd_len g2 g3
    have hmem : ∀ k ∈ srt N, ∃ a, gv N k = some a := fun k hk => by
      obtain ⟨p, hp, e⟩ := List.mem_map.mp ((srt_perm N).mem_iff.mp hk)
      rw [← e]
      exact ⟨p.2, gv_mem g2 hp⟩
    refine s_retD (evd_dc (R := rNat) (is := srt N) (f := fun k => decide ((gv N k).getD 0 ≠ 0)) (key := fun k => k) (u := fun k => (gv N k).getD 0) (ei_list rNat_stb (evp_srt (ev_var rfl) (fun H2 e2 => e2 _ _ h1) g2 (by omega))) (by rw [List.map_id']; exact srt_nodup g2) (by rw [(srt_perm N).length_eq, List.length_map]; omega) gm_name ?_ ⟨num_tidy g1 g2, tidy_canon g2, fun p hp => Nat.le_trans (tidy_kB g3 p hp) hcs⟩) (fun d2 N2 H2 hd2 e2 h2 hg => k d2 N2 H2 (fresh_back e1 hd2) (e1.trans e2) h2 hg)
    intro q x H2 e2 hq hx
    have hx2 : x = V.int (q : Int) := hx
    subst hx2
    obtain ⟨a, ha⟩ := hmem q hq
    refine ⟨rfl, rfl, et_is (et_test (ev_opNe (ev_getK (fun H3 e3 => (e2.trans e3) _ _ h1) (ev_var rfl) (ev_var rfl) ha) ev_c)) (by rw [ha]; simp), fun _ => ⟨ev_var rfl, ?_⟩⟩
    rw [ha]
    exact ev_getK (fun H3 e3 => (e2.trans e3) _ _ h1) (ev_var rfl) (ev_var rfl) ha
def sp_numerator (K : PySem.W.Frag) : Sp := spD fun vs H G => ∃ (n : Nat) (ls : List (List Nat)) (v : V), vs = [v] ∧ rLo K n ls H v ∧ Fine n ls ∧ G = fun N => Num n ls N ∧ Canon N ∧ kB N 32
abbrev N_numerator : List Str := ["lot"]
theorem sc_numerator : FnScope N_numerator ["lot"] (defScope s_numerator) := ⟨rfl, rfl, rfl, by decide +kernel, rfl, by decide +kernel, by decide +kernel⟩
theorem has_numerator (T : Tx K mg) (C : Cl K mg) : Has P w K mg base "numerator" ["lot"] 205 (sp_numerator K) := by
  have h_require_lot : Has P w K mg base _ _ 1 (sp_require_lot K) := has_require_lot T C
  have h_numerator_in : Has P w K mg base _ _ 204 (sp_numerator_in K) := has_numerator_in T C
  obtain ⟨fd, F⟩ := T.fn_numerator
  refine ⟨⟨fd, F.ok sc_numerator (fun vs H Q E h => ?_) (fun cdv A outer s H vs Q E hr h => ?_), F.bindsN fun _ _ _ _ _ _ us hl => match us, hl with | [_], _ => rfl⟩, F.kp, T.g_numerator⟩
  · obtain ⟨R, ⟨n, ls, v, rfl, _⟩, _⟩ := h; rfl
  · obtain ⟨G, ⟨n, ls, v, rfl, hv, hf, rfl⟩, k⟩ := h
    refine ⟨_, PSs.nox (pss_cons (ps_expr (pe_h h_require_lot (hr.mono (by decide)) pass0 (pa_cons (pv 0) pa_nil))) (pss_one (ps_ret (pe_h h_numerator_in (hr.mono (by decide)) pass0 (pa_cons (pv 0) pa_nil))))), ?_⟩
    refine q_drop (v := .non) (evp_call (ea_cons (ev_var rfl) ea_nil) (SpP.of fun H1 e1 => ⟨n, ls, v, rfl, rLo_ex e1 hv, rfl⟩)).ev (fun H1 e1 => ?_)
    exact s_retD (evd_call (ea_cons (ev_var rfl) ea_nil) (fun H2 e2 => ⟨n, ls, v, rfl, rLo_ex (e1.trans e2) hv, hf, rfl⟩)) (fun d N H2 hd e2 h2 hg => k d N H2 (fresh_back e1 hd) (e1.trans e2) h2 hg)
def sp_count_at (K : PySem.W.Frag) : Sp := spR fun vs H R => ∃ (n d : Nat) (ls : List (List Nat)) (N : Nm) (v c : V), vs = [v, c, .int (d : Int)] ∧ rLo K n ls H v ∧ rD N H c ∧ Num n ls N ∧ N.length ≤ 1000 ∧ 1 ≤ n ∧ n ≤ 4 ∧ d ≤ 100 ∧ R = rInt ((left n ls d : Nat) : Int)
abbrev N_count_at : List Str := ["lot", "counts", "degree"]
theorem sc_count_at : FnScope N_count_at ["lot", "counts", "degree"] (defScope s_count_at) := ⟨rfl, rfl, rfl, by decide +kernel, rfl, by decide +kernel, by decide +kernel⟩
theorem has_count_at (T : Tx K mg) (C : Cl K mg) : Has P w K mg base "count_at" ["lot", "counts", "degree"] 2 (sp_count_at K) := by
  have h_left_count : Has P w K mg base _ _ 1 sp_left_count := has_left_count T
  obtain ⟨fd, F⟩ := T.fn_count_at
  refine ⟨⟨fd, F.ok sc_count_at (fun vs H Q E h => ?_) (fun cdv A outer s H vs Q E hr h => ?_), F.bindsN fun _ _ _ _ _ _ us hl => match us, hl with | [_, _, _], _ => rfl⟩, F.kp, T.g_count_at⟩
  · obtain ⟨R, ⟨n, d, ls, N, v, c, rfl, _⟩, _⟩ := h; rfl
  · obtain ⟨R, ⟨n, d, ls, N, v, c, rfl, hv, hc, hN, hl, n1, n4, hd, rfl⟩, k⟩ := h
    refine ⟨_, PSs.nox (pss_one (ps_ret (pe_h h_left_count (hr.mono (by decide)) pass0 (pa_cons (pe_sl (pv 0)) (pa_cons (pv 1) (pa_cons (pv 2) pa_nil)))))), ?_⟩
    exact s_ret (v := .int ((left n ls d : Nat) : Int)) (evp_call (ea_cons (ev_letters C (evp_var (R := rLot K n (rTs K (rW K) ls)) rfl fun H1 e1 => rLo_ex e1 hv)) (ea_cons (ev_var rfl) (ea_cons (ev_var rfl) ea_nil))) (SpP.of fun H1 e1 => ⟨n, d, N, c, rfl, n1, n4, hd, rD_ex e1 hc, hl, by rw [hN d]; rfl⟩)).ev (fun H1 e1 => k _ H1 e1 rfl)
def sp_meets (K : PySem.W.Frag) : Sp := spR fun vs H R => ∃ (n d : Nat) (ls : List (List Nat)) (N : Nm) (v c : V), vs = [v, c, .int (d : Int)] ∧ rLo K n ls H v ∧ rD N H c ∧ Num n ls N ∧ N.length ≤ 1000 ∧ 1 ≤ n ∧ n ≤ 4 ∧ 1 ≤ d ∧ d ≤ 99 ∧ R = rBl (decide (left n ls (d + 1) = bnd d (left n ls d)))
abbrev N_meets : List Str := ["lot", "counts", "degree"]
theorem sc_meets : FnScope N_meets ["lot", "counts", "degree"] (defScope s_meets) := ⟨rfl, rfl, rfl, by decide +kernel, rfl, by decide +kernel, by decide +kernel⟩
theorem has_meets (T : Tx K mg) (C : Cl K mg) : Has P w K mg base "meets" ["lot", "counts", "degree"] 5 (sp_meets K) := by
  have h_count_at : Has P w K mg base _ _ 2 (sp_count_at K) := has_count_at T C
  have h_bound_of : Has P w K mg base _ _ 4 sp_bound_of := has_bound_of T
  obtain ⟨fd, F⟩ := T.fn_meets
  refine ⟨⟨fd, F.ok sc_meets (fun vs H Q E h => ?_) (fun cdv A outer s H vs Q E hr h => ?_), F.bindsN fun _ _ _ _ _ _ us hl => match us, hl with | [_, _, _], _ => rfl⟩, F.kp, T.g_meets⟩
  · obtain ⟨R, ⟨n, d, ls, N, v, c, rfl, _⟩, _⟩ := h; rfl
  · obtain ⟨R, ⟨n, d, ls, N, v, c, rfl, hv, hc, hN, hl, n1, n4, hd1, hd, rfl⟩, k⟩ := h
    refine ⟨_, PSs.nox (pss_one (ps_ret (pe_cmpR op_eq (pe_h h_count_at (hr.mono (by decide)) pass0 (pa_cons (pv 0) (pa_cons (pv 1) (pa_cons (pe_op op_add (pv 2) pe_int) pa_nil)))) (pe_h h_bound_of (hr.mono (by decide)) pass0 (pa_cons (pe_h h_count_at (hr.mono (by decide)) pass0 (pa_cons (pv 0) (pa_cons (pv 1) (pa_cons (pv 2) pa_nil)))) (pa_cons (pv 2) pa_nil))) (nomark _)))), ?_⟩
    have h1 := left_nn n ls d
    have h2 := nn_small n1 n4 (show d ≤ 100 by omega)
    refine s_ret (v := .bl (decide (left n ls (d + 1) = bnd d (left n ls d)))) (ev_is (ev_eqI (i := ((left n ls (d + 1) : Nat) : Int)) (j := ((bnd d (left n ls d) : Nat) : Int)) (evp_call (ea_cons (ev_var rfl) (ea_cons (ev_var rfl) (ea_cons (ev_bin (ev_var rfl) ev_c) ea_nil))) (SpP.of fun H1 e1 => ⟨n, d + 1, ls, N, v, c, rfl, rLo_ex e1 hv, rD_ex e1 hc, hN, hl, n1, n4, by omega, rfl⟩)).ev (evp_call (ea_cons (evp_call (ea_cons (ev_var rfl) (ea_cons (ev_var rfl) (ea_cons (ev_var rfl) ea_nil))) (SpP.of fun H1 e1 => ⟨n, d, ls, N, v, c, rfl, rLo_ex e1 hv, rD_ex e1 hc, hN, hl, n1, n4, by omega, rfl⟩)).ev (ea_cons (ev_var rfl) ea_nil)) (SpP.of fun H1 e1 => ⟨left n ls d, d, rfl, by omega, hd1, by omega, rfl⟩)).ev) (congrArg V.bl (nateq _ _))) (fun H1 e1 => k _ H1 e1 rfl)
def sp_is_met (K : PySem.W.Frag) : Sp := spR fun vs H R => ∃ (n d : Nat) (ls : List (List Nat)) (v : V), vs = [v, .int (d : Int)] ∧ rLo K n ls H v ∧ Fine n ls ∧ 1 ≤ d ∧ d ≤ 60 ∧ R = rBl (decide (left n ls (d + 1) = bnd d (left n ls d)))
abbrev N_is_met : List Str := ["lot", "degree"]
theorem sc_is_met : FnScope N_is_met ["lot", "degree"] (defScope s_is_met) := ⟨rfl, rfl, rfl, by decide +kernel, rfl, by decide +kernel, by decide +kernel⟩
theorem has_is_met (T : Tx K mg) (C : Cl K mg) : Has P w K mg base "is_met" ["lot", "degree"] 205 (sp_is_met K) := by
  have h_require_lot : Has P w K mg base _ _ 1 (sp_require_lot K) := has_require_lot T C
  have h_numerator_in : Has P w K mg base _ _ 204 (sp_numerator_in K) := has_numerator_in T C
  have h_require_within : Has P w K mg base _ _ 3 sp_require_within := has_require_within T
  have h_meets : Has P w K mg base _ _ 5 (sp_meets K) := has_meets T C
  obtain ⟨_, m_MAX_DEGREE⟩ := T.i_MAX_DEGREE
  obtain ⟨fd, F⟩ := T.fn_is_met
  refine ⟨⟨fd, F.ok sc_is_met (fun vs H Q E h => ?_) (fun cdv A outer s H vs Q E hr h => ?_), F.bindsN fun _ _ _ _ _ _ us hl => match us, hl with | [_, _], _ => rfl⟩, F.kp, T.g_is_met⟩
  · obtain ⟨R, ⟨n, d, ls, v, rfl, _⟩, _⟩ := h; rfl
  · obtain ⟨R, ⟨n, d, ls, v, rfl, hv, hf, hd1, hd, rfl⟩, k⟩ := h
    refine ⟨_, PSs.nox (pss_cons (ps_expr (pe_h h_require_lot (hr.mono (by decide)) pass0 (pa_cons (pv 0) pa_nil))) (pss_cons (ps_expr (pe_h h_require_within (hr.mono (by decide)) pass0 (pa_cons (pv 1) (pa_cons pe_int (pa_cons (pe_glob (v := .int 60) rfl m_MAX_DEGREE ⟨_, rfl⟩) pa_nil))))) (pss_one (ps_ret (pe_h h_meets (hr.mono (by decide)) pass0 (pa_cons (pv 0) (pa_cons (pe_fz (pe_h h_numerator_in (hr.mono (by decide)) pass0 (pa_cons (pv 0) pa_nil))) (pa_cons (pv 1) pa_nil)))))))), ?_⟩
    refine q_drop (v := .non) (evp_call (ea_cons (ev_var rfl) ea_nil) (SpP.of fun H1 e1 => ⟨n, ls, v, rfl, rLo_ex e1 hv, rfl⟩)).ev (fun H1 e1 => ?_)
    refine q_drop (v := .non) (evp_call (ea_cons (ev_var rfl) (ea_cons ev_c (ea_cons ev_c ea_nil))) (SpP.of fun H2 e2 => ⟨(d : Int), 1, 60, rfl, by omega, by omega, rfl⟩)).ev (fun H2 e2 => ?_)
    have e12 := e1.trans e2
    refine s_retP (evp_call3m (R := fun H v => ∃ N, (Num n ls N ∧ Canon N ∧ kB N 32) ∧ rD N H v) (ev_var rfl) (evp_fz (evd_call (ea_cons (ev_var rfl) ea_nil) (fun H3 e3 => ⟨n, ls, v, rfl, rLo_ex (e12.trans e3) hv, hf, rfl⟩))) (ev_var rfl) (fun c H3 H4 e3 e4 ⟨N, ⟨g1, g2, g3⟩, hc⟩ => ⟨n, d, ls, N, v, c, rfl, rLo_ex ((e12.trans e3).trans e4) hv, rD_ex e4 hc, g1, by have := nd_len (canon_nd g2) g3; omega, hf.n1, hf.n4, hd1, by omega, rfl⟩)) (fun u H3 e3 hu => k u H3 (e12.trans e3) hu)
end
end PLW
end
section
set_option Elab.async false
set_option linter.all false
set_option maxRecDepth 100000
set_option maxHeartbeats 2000000
namespace PLW
open PySem PySem.Spec PyProof.Rows L2 Evl RZ
open PL PySem.W SlX
/-- met, told by a truth value -/
def mt (n : Nat) (ls : List (List Nat)) (d : Nat) : Bool := decide (left n ls (d + 1) = bnd d (left n ls d))
theorem mt_iff {n : Nat} {ls : List (List Nat)} {d : Nat} : mt n ls d = true ↔ met n ls d := by unfold mt met; rw [decide_eq_true_eq]
theorem low_sum {n : Nat} : ∀ {x : List Nat}, x.length = n → (∀ k ∈ x, k ≤ 8) → x.sum ≤ 8 * n := by
  induction n with
  | zero => intro x h _; cases x with
    | nil => simp
    | cons a x => simp at h
  | succ n ih =>
    intro x h hk
    cases x with
    | nil => simp at h
    | cons a x =>
      have h1 := hk a (by simp)
      have h2 := ih (x := x) (by simpa using h) fun k hk' => hk k (by simp [hk'])
      rw [List.sum_cons]
      omega
/-- the program's way down: from 60 to the least f with met from f on -/
structure Down (m : Nat → Bool) (f : Nat) : Prop where
  f1 : 1 ≤ f
  f60 : f ≤ 60
  all : ∀ d, f ≤ d → d ≤ 60 → m d = true
  end_ : f = 1 ∨ m (f - 1) = false
theorem Down.uniq {m : Nat → Bool} {f g : Nat} (a : Down m f) (b : Down m g) : f = g := by
  rcases Nat.lt_trichotomy f g with c | c | c
  · rcases b.end_ with e | e
    · have := a.f1; omega
    · have := a.all (g - 1) (by omega) (by have := b.f60; omega)
      rw [this] at e; cases e
  · exact c
  · rcases a.end_ with e | e
    · have := b.f1; omega
    · have := b.all (f - 1) (by omega) (by have := a.f60; omega)
      rw [this] at e; cases e
section
variable {K : PySem.W.Frag} {mg : Str → Option Value} {σ : L2.St} {H H' : Hp} {ta tb tc te tl td ty : TE} {D : Ends} {tz tu : TS} {i j n : Nat} {R R' : Rl} {t : TA} {g : TG}
theorem ei_rng2 {t : TA} {lo hi : Nat} (h : EvA t σ H [.int (lo : Int), .int (hi : Int)]) (hn : lo ≤ hi ∧ hi ≤ 100000) : EvI (iRng2 t) σ H rNat ((List.range (hi - lo)).map (lo + ·)) := fun H1 e Rr q =>
  h H1 e _ fun H2 e2 => ⟨(lo : Int), (hi : Int), rfl, ⟨by omega, by omega, by omega, by omega⟩, q _ H2 (fun _ => True) e2 trivial (fun _ _ _ _ => trivial) {
    go := fun i H _ hi' => by
      rw [List.length_map, List.length_range] at hi'
      show i < ((hi : Int) - (lo : Int)).toNat
      omega
    yld := fun i H x H' _ ⟨e, y⟩ k hk => by
      subst e
      rw [List.getElem?_map] at hk
      have hi' : i < hi - lo := by
        by_cases c : i < hi - lo
        · exact c
        · rw [List.getElem?_eq_none (by rw [List.length_range]; omega)] at hk; cases hk
      rw [List.getElem?_range hi'] at hk
      have := Option.some.inj hk
      refine ⟨Ex.refl _, ?_⟩
      show x = V.int (k : Int)
      rw [y, ← this]
      congr 1
    stop := fun H _ => by
      rw [List.length_map, List.length_range]
      show ((hi : Int) - (lo : Int)).toNat ≤ hi - lo
      omega }⟩
theorem evp_maxD {ns : List Int} {d : Int} (h : EvP te σ H (rL K rInt ns)) : EvP (tCKw (rMaxD K) (tCons te tNil) (tCons (tC (.int d)) tNil)) σ H fun _ v => ∃ m, v = .int m ∧ ((ns = [] ∧ m = d) ∨ (m ∈ ns ∧ ∀ y ∈ ns, y ≤ m)) := fun H1 e Q q =>
  h H1 e _ fun v H2 e2 ⟨a, us, eu, ha, pd⟩ => ⟨a, ns, d, by rw [eu], rfl, by rw [← pd_val (f := V.int) pd]; exact ha, fun h0 => q _ H2 e2 ⟨d, rfl, .inl ⟨h0, rfl⟩⟩, fun m hm hx => q _ H2 e2 ⟨m, rfl, .inr ⟨hm, hx⟩⟩⟩
theorem ev_max60 {b : Nat} (h : EvP te σ H fun _ v => ∃ g : Nat, v = .int (g : Int) ∧ g ≤ b) : Ev (tCB rMax2 (tCons (tC (.int (b : Int))) (tCons te tNil))) σ H (.int (b : Int)) := fun H1 e Q q =>
  h H1 e _ fun v H2 e2 ⟨g, eg, hg⟩ => ⟨(b : Int), (g : Int), by rw [eg], by rw [if_neg (by omega)]; exact q H2 e2⟩
end
section
variable {P : Program} {w : World} {K : PySem.W.Frag} {mg : Str → Option Value} {base : Heap}
def sp_greatest_degree (K : PySem.W.Frag) : Sp := spR fun vs H R => ∃ (n : Nat) (ls : List (List Nat)) (v : V), vs = [v] ∧ rLo K n ls H v ∧ Fine n ls ∧ R = fun _ v => ∃ g : Nat, v = .int (g : Int) ∧ g ≤ 60
abbrev N_greatest_degree : List Str := ["lot", "member"]
theorem sc_greatest_degree : FnScope N_greatest_degree ["lot"] (defScope s_greatest_degree) := ⟨rfl, rfl, rfl, by decide +kernel, rfl, by decide +kernel, by decide +kernel⟩
theorem has_greatest_degree (T : Tx K mg) (C : Cl K mg) : Has P w K mg base "greatest_degree" ["lot"] 1 (sp_greatest_degree K) := by
  obtain ⟨fd, F⟩ := T.fn_greatest_degree
  refine ⟨⟨fd, F.ok sc_greatest_degree (fun vs H Q E h => ?_) (fun cdv A outer s H vs Q E hr h => ?_), F.bindsN fun _ _ _ _ _ _ us hl => match us, hl with | [_], _ => rfl⟩, F.kp, T.g_greatest_degree⟩
  · obtain ⟨R, ⟨n, ls, v, rfl, _⟩, _⟩ := h; rfl
  · obtain ⟨R, ⟨n, ls, v, rfl, hv, hf, rfl⟩, k⟩ := h
    refine ⟨_, PSs.nox (pss_one (ps_ret (pe_callBK (cr_maxD rfl (hu_of hr)) (by rfl) T.max_ (by decide +kernel) (pa_cons (pe_lc (own := [("member", 1)]) rfl sc_greatest_degree.nd (pi_tup (pe_sl (pv 0))) (blkOk_by (own := [("member", 1)]) (N := N_greatest_degree) (sc := defScope s_greatest_degree) (by decide +kernel)) (by intro _ _ _ _ _; refine pg_nm (i := 1) ?_ ?_ ?_ ?_; exact sc_greatest_degree.nd; exact rfl; all_goals first | exact .inl rfl | exact .inr rfl) (fun _ _ _ _ _ => pts_nil) (by intro _ _ _ _ _; exact (pe_callB (cr_sumTK (K := K) rfl rfl) (by rfl) T.sum_ (by decide +kernel) (pa_cons (pv 1) pa_nil)))) pa_nil) (pk_cons pe_int pk_nil)))), ?_⟩
    refine s_retP (evp_maxD (evp_lc0 (R := rW K) (u := fun x : List Nat => ((x.sum : Nat) : Int)) (ei_tup (rW_stb K) (evp_members C (evp_var (R := rLot K n (rTs K (rW K) ls)) rfl fun H1 e1 => rLo_ex e1 hv))) rInt_stb (by have := hf.few; omega) gm_name (fun x u H2 e2 hx ⟨c, ec, hc⟩ => ⟨rfl, rfl, EvP.of (ev_sumT (ev_var (by rw [ec]; rfl)) hc)⟩))) (fun u H1 e1 ⟨m, hm, hcase⟩ => ?_)
    rcases hcase with ⟨_, h0⟩ | ⟨hmem, _⟩
    · exact k u H1 e1 ⟨0, by rw [hm, h0]; rfl, by omega⟩
    · obtain ⟨x, hx, rfl⟩ := List.mem_map.mp hmem
      have hlo := low_sum (hf.len x hx).1 (hf.len x hx).2
      have := hf.n4
      exact k u H1 e1 ⟨x.sum, hm, by omega⟩
def sp_least_met (K : PySem.W.Frag) : Sp := spR fun vs H R => ∃ (n : Nat) (ls : List (List Nat)) (v : V), vs = [v] ∧ rLo K n ls H v ∧ Fine n ls ∧ mt n ls 60 = true ∧ R = fun _ v => ∃ f : Nat, v = .int (f : Int) ∧ Down (mt n ls) f
abbrev N_least_met : List Str := ["lot", "counts", "far", "found", "degree"]
theorem sc_least_met : FnScope N_least_met ["lot"] (defScope s_least_met) := ⟨rfl, rfl, rfl, by decide +kernel, rfl, by decide +kernel, by decide +kernel⟩
theorem has_least_met (T : Tx K mg) (C : Cl K mg) : Has P w K mg base "least_met" ["lot"] 205 (sp_least_met K) := by
  have h_numerator_in : Has P w K mg base _ _ 204 (sp_numerator_in K) := has_numerator_in T C
  have h_greatest_degree : Has P w K mg base _ _ 1 (sp_greatest_degree K) := has_greatest_degree T C
  have h_meets : Has P w K mg base _ _ 5 (sp_meets K) := has_meets T C
  obtain ⟨_, m_MAX_DEGREE⟩ := T.i_MAX_DEGREE
  obtain ⟨fd, F⟩ := T.fn_least_met
  refine ⟨⟨fd, F.ok sc_least_met (fun vs H Q E h => ?_) (fun cdv A outer s H vs Q E hr h => ?_), F.bindsN fun _ _ _ _ _ _ us hl => match us, hl with | [_], _ => rfl⟩, F.kp, T.g_least_met⟩
  · obtain ⟨R, ⟨n, ls, v, rfl, _⟩, _⟩ := h; rfl
  · obtain ⟨R, ⟨n, ls, v, rfl, hv, hf, h60, rfl⟩, k⟩ := h
    refine ⟨_, PSs.nox (pss_cons (ps_set (i := 1) sc_least_met.nd rfl (Or.inr rfl) (pe_fz (pe_h h_numerator_in (hr.mono (by decide)) pass0 (pa_cons (pv 0) pa_nil)))) (pss_cons (ps_setLc (i := 2) (own := [("degree", 4)]) rfl sc_least_met.nd rfl rfl (sw_true rfl rfl rfl (by decide +kernel)) (pi_range2 (by rfl) T.range_ (pa_cons (pe_glob (v := .int 60) rfl m_MAX_DEGREE ⟨_, rfl⟩) (pa_cons (pe_op op_add (pe_callB (call_max2 rfl) (by rfl) T.max_ (by decide +kernel) (pa_cons (pe_glob (v := .int 60) rfl m_MAX_DEGREE ⟨_, rfl⟩) (pa_cons (pe_h h_greatest_degree (hr.mono (by decide)) pass0 (pa_cons (pv 0) pa_nil)) pa_nil))) pe_int) pa_nil))) (blkOk_by (own := [("degree", 4)]) (N := N_least_met) (sc := defScope s_least_met) (by decide +kernel)) (by intro _ _ _ _ _; refine pg_nm (i := 4) ?_ ?_ ?_ ?_; exact sc_least_met.nd; exact rfl; all_goals first | exact .inl rfl | exact .inr rfl) (fun _ _ _ _ _ => pts_nil) (by intro _ _ _ _ _; exact (pv 4))) (pss_cons (ps_if (pt_not (pt_val (pe_callB (cr_all rfl) (by rfl) T.all_ (by decide +kernel) (pa_cons (pe_lc (own := [("degree", 4)]) rfl sc_least_met.nd (pi_list (pv 2)) (blkOk_by (own := [("degree", 4)]) (N := N_least_met) (sc := defScope s_least_met) (by decide +kernel)) (by intro _ _ _ _ _; refine pg_nm (i := 4) ?_ ?_ ?_ ?_; exact sc_least_met.nd; exact rfl; all_goals first | exact .inl rfl | exact .inr rfl) (fun _ _ _ _ _ => pts_nil) (by intro _ _ _ _ _; exact (pe_h h_meets (hr.mono (by decide)) pass0 (pa_cons (pv 0) (pa_cons (pv 1) (pa_cons (pv 4) pa_nil)))))) pa_nil)))) (pss_one ps_never) pss_nil) (pss_cons (ps_set (i := 3) sc_least_met.nd rfl (Or.inl rfl) (pe_glob (v := .int 60) rfl m_MAX_DEGREE ⟨_, rfl⟩)) (pss_cons (ps_while PassesOwn.never (PW.pt (pw_and (pt_cmpR op_gt (pv 3) pe_int (nomark _)) (pw_and1 (pt_val (pe_h h_meets (hr.mono (by decide)) pass0 (pa_cons (pv 0) (pa_cons (pv 1) (pa_cons (pe_op op_sub (pv 3) pe_int) pa_nil)))))))) (pss_one (ps_aug (i := 3) sc_least_met.nd rfl (Or.inl rfl) pe_int ip_sub))) (pss_one (ps_ret (pv 3)))))))), ?_⟩
    refine q_asgP (Rr := fun H v => ∃ N, (Num n ls N ∧ Canon N ∧ kB N 32) ∧ rD N H v) (evp_fz (evd_call (ea_cons (ev_var rfl) ea_nil) (fun H1 e1 => ⟨n, ls, v, rfl, rLo_ex e1 hv, hf, rfl⟩))) (fun c H1 e1 ⟨N, ⟨g1, g2, g3⟩, hc⟩ => ?_)
    have hlen : N.length ≤ 1000 := by have := nd_len (canon_nd g2) g3; omega
    have hm : ∀ {σ : L2.St} {H2 : Hp} {d : Nat} {t : TE}, Ex H1 H2 → 1 ≤ d → d ≤ 99 → σ[0]? = some (some v) → σ[1]? = some (some c) → Ev t σ H2 (.int (d : Int)) → Ev (tCall (sp_meets K) [] E0 (tCons (tVar 0) (tCons (tVar 1) (tCons t tNil)))) σ H2 (.bl (mt n ls d)) := fun {σ H2 d t} e2 h1 h2 s0 s1 ht => (evp_call (ea_cons (ev_var s0) (ea_cons (ev_var s1) (ea_cons ht ea_nil))) (SpP.of fun H3 e3 => ⟨n, d, ls, N, v, c, rfl, rLo_ex ((e1.trans e2).trans e3) hv, rD_ex (e2.trans e3) hc, g1, hlen, hf.n1, hf.n4, h1, h2, rfl⟩)).ev
    refine q_asgF (R := rNat) (is := [60]) (evf_lc0 (R := rNat) (is := [60]) (S := rNat) (u := fun k => k) (ei_rng2 (lo := 60) (hi := 61) (ea_cons ev_c (ea_cons (ev_is (ev_bin (ev_max60 (b := 60) (evp_call (ea_cons (ev_var rfl) ea_nil) (SpP.of fun H2 e2 => ⟨n, ls, v, rfl, rLo_ex (e1.trans e2) hv, hf, rfl⟩))) ev_c) rfl) ea_nil)) (by omega)) rNat_stb (by decide) gm_name (fun q x H2 e2 _ hx => ⟨rfl, rfl, evp_var rfl fun H3 e3 => hx⟩)) (fun p vs H2 hp e2 h2 pd2 => ?_)
    refine q_when (b := !true) (et_not (et_test (ev_is (ev_allL (bs := [60].map (mt n ls)) (evp_lc0 (R := rNat) (is := [60]) (ei_list rNat_stb (evp_var rfl fun H3 e3 => ⟨p, vs, rfl, sq_of (e3 _ _ h2), pd2.keep rNat_stb (Kp.ex e3)⟩)) rBl_stb (by decide) gm_name (fun q x H3 e3 hq hx => ⟨rfl, rfl, EvP.of (hm (e2.trans e3) (by simp at hq; omega) (by simp at hq; omega) rfl rfl (ev_var (by rw [show x = V.int (q : Int) from hx]; rfl)))⟩))) (by rw [List.map_singleton, h60]; rfl)))) (fun z => by cases z) (fun _ H3 e3 => ?_)
    refine q_asg ev_c (fun H4 e4 => ?_)
    have e14 := (e2.trans e3).trans e4
    refine q_while (fun m σ' H' => ∃ x, σ' = [some v, some c, some (.ref p), some (.int ((m + 1 : Nat) : Int)), x] ∧ Ex H1 H' ∧ m + 1 ≤ 60 ∧ ∀ d, m + 1 ≤ d → d ≤ 60 → mt n ls d = true) 59 ⟨none, rfl, e14, by omega, fun d h1 h2 => by
      obtain rfl : d = 60 := by omega
      exact h60⟩ ?_
    rintro m σ' H' ⟨x, rfl, e5, hm60, hall⟩
    refine ⟨decide (1 < m + 1) && (decide (1 < m + 1) && mt n ls m), et_is (et_and (et_is (et_test (ev_cmp (ev_var rfl) ev_c)) (natlt 1 _)) (fun hz => et_test (hm (d := m) e5 (by have := of_decide_eq_true hz; omega) (by omega) rfl rfl (ev_is (ev_bin (ev_var rfl) ev_c) (by congr 1; omega))))) (by cases decide (1 < m + 1) <;> rfl), fun z H6 e6 => ?_, fun z H6 e6 => ?_⟩
    · have hz : 1 < m + 1 := by
        by_cases c : 1 < m + 1
        · exact c
        · rw [decide_eq_false c] at z; cases z
      have hmm : mt n ls m = true := by rw [decide_eq_true hz] at z; simpa using z
      refine ⟨fun σ2 H2 => σ2 = [some v, some c, some (.ref p), some (.int (m : Int)), x] ∧ Ex H1 H2, fun σ2 H2 ⟨a1, a2⟩ => ⟨m - 1, by omega, x, by rw [a1, show m - 1 + 1 = m by omega], a2, by omega, fun d h1 h2 => ?_⟩, ?_⟩
      · by_cases c : d = m
        · rw [c]; exact hmm
        · exact hall d (by omega) h2
      · exact s_aug (a := ((m + 1 : Nat) : Int)) (b := 1) rfl ev_c (fun H7 e7 => ⟨by show [_, _, _, some (V.int (((m + 1 : Nat) : Int) - 1)), _] = _; rw [show ((m + 1 : Nat) : Int) - 1 = (m : Int) by omega], (e5.trans e6).trans e7⟩)
    · refine s_ret (v := .int ((m + 1 : Nat) : Int)) (ev_var rfl) (fun H7 e7 => k _ H7 (((e1.trans e5).trans e6).trans e7) ⟨m + 1, rfl, by omega, hm60, hall, ?_⟩)
      by_cases c : m = 0
      · left; omega
      · right
        rw [decide_eq_true (by omega)] at z
        simpa using z
def sp_met_from (K : PySem.W.Frag) : Sp := spR fun vs H R => ∃ (n : Nat) (ls : List (List Nat)) (v : V), vs = [v] ∧ rLo K n ls H v ∧ Fine n ls ∧ mt n ls 60 = true ∧ R = fun _ v => ∃ f : Nat, v = .int (f : Int) ∧ Down (mt n ls) f
abbrev N_met_from : List Str := ["lot"]
theorem sc_met_from : FnScope N_met_from ["lot"] (defScope s_met_from) := ⟨rfl, rfl, rfl, by decide +kernel, rfl, by decide +kernel, by decide +kernel⟩
theorem has_met_from (T : Tx K mg) (C : Cl K mg) : Has P w K mg base "met_from" ["lot"] 206 (sp_met_from K) := by
  have h_require_lot : Has P w K mg base _ _ 1 (sp_require_lot K) := has_require_lot T C
  have h_least_met : Has P w K mg base _ _ 205 (sp_least_met K) := has_least_met T C
  obtain ⟨fd, F⟩ := T.fn_met_from
  refine ⟨⟨fd, F.ok sc_met_from (fun vs H Q E h => ?_) (fun cdv A outer s H vs Q E hr h => ?_), F.bindsN fun _ _ _ _ _ _ us hl => match us, hl with | [_], _ => rfl⟩, F.kp, T.g_met_from⟩
  · obtain ⟨R, ⟨n, ls, v, rfl, _⟩, _⟩ := h; rfl
  · obtain ⟨R, ⟨n, ls, v, rfl, hv, hf, h60, rfl⟩, k⟩ := h
    refine ⟨_, PSs.nox (pss_cons (ps_expr (pe_h h_require_lot (hr.mono (by decide)) pass0 (pa_cons (pv 0) pa_nil))) (pss_one (ps_ret (pe_h h_least_met (hr.mono (by decide)) pass0 (pa_cons (pv 0) pa_nil))))), ?_⟩
    refine q_drop (v := .non) (evp_call (ea_cons (ev_var rfl) ea_nil) (SpP.of fun H1 e1 => ⟨n, ls, v, rfl, rLo_ex e1 hv, rfl⟩)).ev (fun H1 e1 => ?_)
    exact s_retP (evp_call (ea_cons (ev_var rfl) ea_nil) (SpP.of fun H2 e2 => ⟨n, ls, v, rfl, rLo_ex (e1.trans e2) hv, hf, h60, rfl⟩)) (fun u H2 e2 hu => k u H2 (e1.trans e2) hu)
end
end PLW
end
section
set_option Elab.async false
set_option linter.all false
set_option maxRecDepth 100000
set_option maxHeartbeats 2000000
namespace PLW
open PySem PySem.Spec PyProof.Rows L2 Evl RZ
open PL PySem.W SlX
def ahd (b : Nat) (t : Nat) : Nat := if t = 0 then 0 else nn (b + 1) (t - 1)
theorem ahd_succ (b t : Nat) : ahd b (t + 1) = ahd b t + nn b t := by
  unfold ahd
  rw [if_neg (by omega), show t + 1 - 1 = t by omega]
  by_cases c : t = 0
  · subst c; rw [if_pos rfl, nn_zero, nn_zero]
  · obtain ⟨s, rfl⟩ : ∃ s, t = s + 1 := ⟨t - 1, by omega⟩
    rw [if_neg c, nn_succ, show s + 1 - 1 = s by omega]
    omega
theorem ahd_all (b t : Nat) : ahd b (t + 1) = nn (b + 1) t := by unfold ahd; rw [if_neg (by omega)]; rfl
section
variable {P : Program} {w : World} {K : PySem.W.Frag} {mg : Str → Option Value} {base : Heap}
def sp_product_with : Sp := spR fun vs H R => ∃ n d p : Nat, vs = [.int (n : Int), .int (d : Int), .int (p : Int)] ∧ 1 ≤ n ∧ n ≤ 4 ∧ d ≤ 100 ∧ p < nn n d ∧ R = fun H v => ∃ x, (words n d)[p]? = some x ∧ rWh x H v
abbrev N_product_with : List Str := ["letters", "degree", "place", "found", "left", "behind", "exponent"]
theorem sc_product_with : FnScope N_product_with ["letters", "degree", "place"] (defScope s_product_with) := ⟨rfl, rfl, rfl, by decide +kernel, rfl, by decide +kernel, by decide +kernel⟩
theorem has_product_with (T : Tx K mg) : Has P w K mg base "product_with" ["letters", "degree", "place"] 3 sp_product_with := by
  have h_products_in : Has P w K mg base _ _ 2 sp_products_in := has_products_in T
  obtain ⟨fd, F⟩ := T.fn_product_with
  refine ⟨⟨fd, F.ok sc_product_with (fun vs H Q E h => ?_) (fun cdv A outer s H vs Q E hr h => ?_), F.bindsN fun _ _ _ _ _ _ us hl => match us, hl with | [_, _, _], _ => rfl⟩, F.kp, T.g_product_with⟩
  · obtain ⟨R, ⟨n, d, p, rfl, _⟩, _⟩ := h; rfl
  · obtain ⟨R, ⟨n, d, p, rfl, n1, n4, hd, hp, rfl⟩, k⟩ := h
    refine ⟨_, PSs.nox (pss_cons (ps_par (i := 3) (j := 4) (by rfl) sc_product_with.nd rfl rfl (by decide) rfl rfl (pa_cons (pe_lst pa_nil) (pa_cons (pv 1) pa_nil)) (by rfl)) (pss_cons (ps_for PassesOwn.never rfl (pi_range3 (by rfl) T.range_ (pa_cons (pe_op op_sub (pv 0) pe_int) (pa_cons pe_int (pa_cons (pe_un un_neg pe_int) pa_nil)))) (pg_name (i := 5) sc_product_with.nd rfl (Or.inl rfl)) (pss_cons (ps_set (i := 6) sc_product_with.nd rfl (Or.inl rfl) (pv 4)) (pss_cons (ps_while PassesOwn.never (pt_cmpR op_ge (pv 2) (pe_h h_products_in (hr.mono (by decide)) pass0 (pa_cons (pv 5) (pa_cons (pe_op op_sub (pv 4) (pv 6)) pa_nil))) (nomark _)) (pss_cons (ps_aug (i := 2) sc_product_with.nd rfl (Or.inl rfl) (pe_h h_products_in (hr.mono (by decide)) pass0 (pa_cons (pv 5) (pa_cons (pe_op op_sub (pv 4) (pv 6)) pa_nil))) ip_sub) (pss_one (ps_aug (i := 6) sc_product_with.nd rfl (Or.inl rfl) pe_int ip_sub)))) (pss_cons (ps_expr (pe_bm PySem.F.plainAttrs_list PySem.F.slot_list_append PySem.F.type_list_append mt_append (pv 3) (pa_cons (pv 6) pa_nil))) (pss_one (ps_aug (i := 4) sc_product_with.nd rfl (Or.inl rfl) (pv 6) ip_sub)))))) (pss_one (ps_ret (pe_tup (StX.pa_star (pv 3) (pa_cons (pv 4) pa_nil))))))), ?_⟩
    refine q_parL (b := .int (d : Int)) (el_lst ea_nil (Nat.zero_le _)) (ev_var rfl) (fun l H1 hl e1 hl1 => ?_)
    refine s_forR3 (D := _) (lo := ((n - 1 : Nat) : Int)) (hi := 0) (ea_cons (ev_is (ev_bin (ev_var rfl) ev_c) (by rw [show ((n - 1 : Nat) : Int) = (n : Int) - 1 by omega])) (ea_cons ev_c (ea_cons (ev_un ev_c ru_neg) ea_nil))) (by omega) (fun j σ' H' => ∃ (f : List Nat) (L p' : Nat) (x5 x6 : Option V), σ' = [some (.int (n : Int)), some (.int (d : Int)), some (.int (p' : Int)), some (.ref l), some (.int (L : Int)), x5, x6] ∧ Ex H H' ∧ H' l = some (.lst (wV f)) ∧ f.length = j ∧ j ≤ n - 1 ∧ L ≤ d ∧ p' < nn (n - j) L ∧ ∀ y : List Nat, y.length = n - j → y.sum = L → pos y = p' → (f ++ y).sum = d ∧ pos (f ++ y) = p)
      (fun H2 e2 => ⟨[], d, p, none, none, rfl, e1.trans e2, e2 _ _ hl1, rfl, by omega, Nat.le_refl _, by simpa using hp, fun y h1 h2 h3 => ⟨h2, h3⟩⟩) ?_ ?_
    · rintro j σ' H' hj ⟨f, L, p', x5, x6, rfl, e, hl', hfj, hjn, hL, hp', hinv⟩
      obtain ⟨b, hb⟩ : ∃ b, n - 1 - j = b + 1 := ⟨n - 1 - j - 1, by omega⟩
      have hnj : n - j = b + 1 + 1 := by omega
      rw [hnj] at hp' hinv
      rw [show ((n - 1 : Nat) : Int) - (j : Int) = ((b + 1 : Nat) : Int) by omega]
      refine q_asg (v := .int ((L - 0 : Nat) : Int)) (ev_is (ev_var rfl) rfl) (fun H2 e2 => ?_)
      refine q_while (fun m σ'' H'' => ∃ t : Nat, σ'' = [some (.int (n : Int)), some (.int (d : Int)), some (.int ((p' - ahd (b + 1) t : Nat) : Int)), some (.ref l), some (.int (L : Int)), some (.int ((b + 1 : Nat) : Int)), some (.int ((L - t : Nat) : Int))] ∧ Ex H2 H'' ∧ t ≤ L ∧ ahd (b + 1) t ≤ p' ∧ m + t = L) L ⟨0, rfl, Ex.refl H2, Nat.zero_le _, Nat.zero_le _, rfl⟩ ?_
      rintro m σ'' H'' ⟨t, rfl, e3, htL, hS, hm⟩
      have hprod : ∀ {H4 : Hp}, Ev (tCall sp_products_in [] E0 (tCons (tVar 5) (tCons (tOp (rI0 fun i j => .int (i - j)) (tVar 4) (tVar 6)) tNil))) [some (.int (n : Int)), some (.int (d : Int)), some (.int ((p' - ahd (b + 1) t : Nat) : Int)), some (.ref l), some (.int (L : Int)), some (.int ((b + 1 : Nat) : Int)), some (.int ((L - t : Nat) : Int))] H4 (.int ((nn (b + 1) t : Nat) : Int)) := fun {H4} => (evp_call (ea_cons (ev_var rfl) (ea_cons (ev_is (ev_bin (ev_var rfl) (ev_var rfl)) (show V.int ((L : Int) - ((L - t : Nat) : Int)) = V.int (t : Int) by congr 1; omega)) ea_nil)) (SpP.of fun H5 _ => ⟨b + 1, t, rfl, by omega, by omega, by omega, rfl⟩)).ev
      have hsucc := ahd_succ (b + 1) t
      have hall := ahd_all (b + 1) L
      refine ⟨decide (nn (b + 1) t ≤ p' - ahd (b + 1) t), et_is (et_test (ev_cmp (ev_var rfl) hprod)) (natle _ _), fun z H4 e4 => ?_, fun z H4 e4 => ?_⟩
      · have hz := of_decide_eq_true z
        have htl : t < L := by
          by_cases c : t = L
          · subst c; omega
          · omega
        refine ⟨fun σ2 H5 => σ2 = [some (.int (n : Int)), some (.int (d : Int)), some (.int ((p' - ahd (b + 1) (t + 1) : Nat) : Int)), some (.ref l), some (.int (L : Int)), some (.int ((b + 1 : Nat) : Int)), some (.int ((L - (t + 1) : Nat) : Int))] ∧ Ex H2 H5, fun σ2 H5 ⟨a1, a2⟩ => ⟨m - 1, by omega, t + 1, a1, a2, by omega, by omega, by omega⟩, ?_⟩
        refine q_aug rfl hprod (fun H5 e5 => ?_)
        refine s_aug rfl ev_c (fun H6 e6 => ⟨?_, ((e3.trans e4).trans e5).trans e6⟩)
        show [_, _, some (V.int (((p' - ahd (b + 1) t : Nat) : Int) - ((nn (b + 1) t : Nat) : Int))), _, _, _, some (V.int (((L - t : Nat) : Int) - 1))] = _
        rw [show ((p' - ahd (b + 1) t : Nat) : Int) - ((nn (b + 1) t : Nat) : Int) = ((p' - ahd (b + 1) (t + 1) : Nat) : Int) by omega, show ((L - t : Nat) : Int) - 1 = ((L - (t + 1) : Nat) : Int) by omega]
      · have hz := of_decide_eq_false z
        have hl4 := e4 _ _ (e3 _ _ (e2 _ _ hl'))
        refine q_app hl4 (ev_var rfl) (ev_var rfl) (by rw [wV_len]; omega) (fun H5 e5 => ?_)
        have ex5 : Ex H (upd H5 l (.lst (wV f ++ [.int ((L - t : Nat) : Int)]))) := Ex.mut ((((e.trans e2).trans e3).trans e4).trans e5) hl
        refine s_aug rfl (ev_var rfl) (fun H6 e6 => ⟨f ++ [L - t], t, p' - ahd (b + 1) t, some (.int ((b + 1 : Nat) : Int)), some (.int ((L - t : Nat) : Int)), ?_, ex5.trans e6, ?_, by rw [List.length_append, List.length_singleton, hfj], by omega, by omega, ?_, fun y h1 h2 h3 => ?_⟩)
        · show [_, _, _, _, some (V.int ((L : Int) - ((L - t : Nat) : Int))), _, _] = _
          rw [show (L : Int) - ((L - t : Nat) : Int) = (t : Int) by omega]
        · rw [show wV (f ++ [L - t]) = wV f ++ [.int ((L - t : Nat) : Int)] by unfold wV; rw [List.map_append]; rfl]
          exact e6 _ _ upd_same
        · rw [show n - (j + 1) = b + 1 by omega]; omega
        · have hyl : y.length = b + 1 := by omega
          rw [List.append_assoc]
          refine hinv ([L - t] ++ y) (by rw [List.length_append, List.length_singleton]; omega) (by rw [List.sum_append_nat, h2]; simp; omega) ?_
          show pos ((L - t) :: y) = p'
          rw [pos_cons, h3, h2, hyl]
          have : (if t = 0 then 0 else nn (b + 1 + 1) (t - 1)) = ahd (b + 1) t := rfl
          rw [this]
          omega
    · rintro σ' H' ⟨f, L, p', x5, x6, rfl, e, hl', hfj, hjn, hL, hp', hinv⟩
      have hj : (((n - 1 : Nat) : Int) - 0).toNat = n - 1 := by omega
      rw [hj] at hfj hjn hp' hinv
      rw [show n - (n - 1) = 1 by omega] at hp' hinv
      rw [nn1] at hp'
      obtain ⟨h1, h2⟩ := hinv [L] rfl (by simp) (by rw [show p' = 0 by omega]; rfl)
      have hlen : (f ++ [L]).length = n := by rw [List.length_append, List.length_singleton]; omega
      refine s_retP (R := rWh (f ++ [L])) (evp_tupWh (ea_starL (ev_var rfl) (sq_of hl') (ea_cons (ev_var rfl) ea_nil)) (by unfold wV; rw [List.map_append]; rfl) (by omega)) (fun v H2 e2 hv => k v H2 (e.trans e2) ⟨f ++ [L], ?_, hv⟩)
      rw [← h2]
      exact words_of n d _ hlen h1
def sp_new_members : Sp := spR fun vs H R => ∃ n d h g : Nat, vs = [.int (n : Int), .int (d : Int), .int (h : Int), .int (g : Int)] ∧ g ≤ 1000000 ∧ d ≤ 8000 ∧ R = rInt ((if d = 0 then 1 else if d = 1 then (n : Int) else ((bnd (d - 1) g : Nat) : Int)) - (h : Int))
abbrev N_new_members : List Str := ["letters", "degree", "number", "ahead"]
theorem sc_new_members : FnScope N_new_members ["letters", "degree", "number", "ahead"] (defScope s_new_members) := ⟨rfl, rfl, rfl, by decide +kernel, rfl, by decide +kernel, by decide +kernel⟩
theorem has_new_members (T : Tx K mg) : Has P w K mg base "new_members" ["letters", "degree", "number", "ahead"] 5 sp_new_members := by
  have h_bound_of : Has P w K mg base _ _ 4 sp_bound_of := has_bound_of T
  obtain ⟨fd, F⟩ := T.fn_new_members
  refine ⟨⟨fd, F.ok sc_new_members (fun vs H Q E h => ?_) (fun cdv A outer s H vs Q E hr h => ?_), F.bindsN fun _ _ _ _ _ _ us hl => match us, hl with | [_, _, _, _], _ => rfl⟩, F.kp, T.g_new_members⟩
  · obtain ⟨R, ⟨n, d, h, g, rfl, _⟩, _⟩ := h; rfl
  · obtain ⟨R, ⟨n, d, h, g, rfl, hg, hd, rfl⟩, k⟩ := h
    refine ⟨_, PSs.nox (pss_cons (ps_if (pt_cmpR op_eq (pv 1) pe_int (nomark _)) (pss_one (ps_ret (pe_op op_sub pe_int (pv 2)))) pss_nil) (pss_one (ps_ret (pe_op op_sub (pe_ifExp (pt_cmpR op_eq (pv 1) pe_int (nomark _)) (pv 0) (pe_h h_bound_of (hr.mono (by decide)) pass0 (pa_cons (pv 3) (pa_cons (pe_op op_sub (pv 1) pe_int) pa_nil)))) (pv 2))))), ?_⟩
    refine q_when (b := decide (d = 0)) (et_is (et_test (ev_eqI (ev_var rfl) ev_c)) (nateq d 0)) (fun z H1 e1 => ?_) (fun z H1 e1 => ?_)
    · have hz := of_decide_eq_true z
      refine s_ret (v := .int (1 - (h : Int))) (ev_bin ev_c (ev_var rfl)) (fun H2 e2 => k _ H2 (e1.trans e2) ?_)
      rw [if_pos hz]
      rfl
    · have hz := of_decide_eq_false z
      refine s_ret (v := .int ((if d = 1 then (n : Int) else ((bnd (d - 1) g : Nat) : Int)) - (h : Int))) (ev_bin (ev_if (b := decide (d = 1)) (et_is (et_test (ev_eqI (ev_var rfl) ev_c)) (nateq d 1)) (fun c => ?_) (fun c => ?_)) (ev_var rfl)) (fun H2 e2 => k _ H2 (e1.trans e2) ?_)
      · rw [if_pos (of_decide_eq_true c)]
        exact ev_var rfl
      · rw [if_neg (of_decide_eq_false c)]
        have := of_decide_eq_false c
        exact (evp_call (ea_cons (ev_var rfl) (ea_cons (ev_is (ev_bin (ev_var rfl) ev_c) (show V.int ((d : Int) - 1) = V.int ((d - 1 : Nat) : Int) by congr 1; omega)) ea_nil)) (SpP.of fun H3 _ => ⟨g, d - 1, rfl, hg, by omega, by omega, rfl⟩)).ev
      · rw [if_neg hz]
        rfl
end
end PLW
end
section
set_option Elab.async false
set_option linter.all false
set_option maxRecDepth 100000
set_option maxHeartbeats 2000000
namespace PLW
open PySem PySem.Spec PyProof.Rows L2 Evl RZ
open PL PySem.W SlX
/-! the first members, as the program takes them -/
def isA (n : Nat) (ls : List (List Nat)) : Prop := ls = [List.replicate n 0]
instance (n : Nat) (ls : List (List Nat)) : Decidable (isA n ls) := inferInstanceAs (Decidable (ls = _))
def mny (n : Nat) (ls : List (List Nat)) (j : Nat) : Nat := if isA n ls then (if j = 0 then 1 else 0) else iA n ls j - F n (iA n ls (j - 1))
def stt (n : Nat) (ls : List (List Nat)) (j : Nat) : Nat := nn n j - left n ls j - mny n ls j
def fsq (n : Nat) (ls : List (List Nat)) : Nat → List (List Nat)
  | 0 => []
  | j + 1 => fsq n ls j ++ (((words n j).drop (stt n ls j)).take (mny n ls j)).take (25 - (fsq n ls j).length)
def frs (n : Nat) (ls : List (List Nat)) (last : Nat) : List (List Nat) := if isA n ls then [List.replicate n 0] else (due n (iA n ls) last).take 25
/-- lots that have first lots: all products, or members that are not 1 -/
def Ok0 (n : Nat) (ls : List (List Nat)) : Prop := isA n ls ∨ ∀ x ∈ ls, 0 < x.sum
theorem iA_le (n : Nat) (ls : List (List Nat)) (d : Nat) : iA n ls d ≤ nn n d := cnt_nn _ _ _
theorem left_iA (n : Nat) (ls : List (List Nat)) (d : Nat) : left n ls d + iA n ls d = nn n d := by have := iA_le n ls d; unfold left; omega
theorem left_all {n : Nat} (d : Nat) : left n [List.replicate n 0] d = 0 := by
  have h := num_all (n := n) (x := List.replicate n 0) (by simp) d
  have h2 : nsum n [] d = 0 := rfl
  rw [h2] at h
  omega
theorem iA_zero {n : Nat} {ls : List (List Nat)} (hx : ∀ x ∈ ls, x.length = n) (h : ∀ x ∈ ls, 0 < x.sum) : iA n ls 0 = 0 := by
  unfold iA
  have : cnt n 0 (inI ls) = cnt n 0 (fun _ => false) := cnt_congr _ _ _ _ fun m hl hs => by
    cases hc : inI ls m with
    | false => rfl
    | true =>
      obtain ⟨x, h1, h2⟩ := inI_iff.mp hc
      have := dv_sum (by rw [hx x h1, hl]) h2
      have := h x h1
      omega
  rw [this, PL.cnt_none]
theorem grows {n : Nat} {ls : List (List Nat)} (hn : n ≤ 4) (hx : ∀ x ∈ ls, x.length = n) (h : ∀ x ∈ ls, 0 < x.sum) : Grows n (iA n ls) := ⟨iA_zero hx h, fun d => iA_mac hn hx d, fun d => iA_le n ls d⟩
theorem mny_ok {n : Nat} {ls : List (List Nat)} (n1 : 1 ≤ n) (hn : n ≤ 4) (hx : ∀ x ∈ ls, x.length = n) (h0 : Ok0 n ls) (j : Nat) : mny n ls j + left n ls j ≤ nn n j := by
  unfold mny
  have := left_iA n ls j
  by_cases c : isA n ls
  · rw [if_pos c, c, left_all]
    have hp : 0 < nn n j := by
      obtain ⟨m, rfl⟩ : ∃ m, n = m + 1 := ⟨n - 1, by omega⟩
      exact nn_pos m j
    split <;> omega
  · rw [if_neg c]
    omega
/-- many, as new_members tells it -/
theorem mny_new {n : Nat} {ls : List (List Nat)} (n1 : 1 ≤ n) (hn : n ≤ 4) (hx : ∀ x ∈ ls, x.length = n) (h0 : Ok0 n ls) (j : Nat) (hj : isA n ls → j = 0) :
    (if j = 0 then 1 else if j = 1 then (n : Int) else ((bnd (j - 1) (left n ls (j - 1)) : Nat) : Int)) - ((left n ls j : Nat) : Int) = ((mny n ls j : Nat) : Int) := by
  have hl := left_iA n ls j
  by_cases c : isA n ls
  · have hj0 := hj c
    subst hj0
    unfold mny
    rw [if_pos c, if_pos rfl, if_pos rfl, c, left_all]
    rfl
  · have hs : ∀ x ∈ ls, 0 < x.sum := h0.resolve_left c
    have G := grows hn hx hs
    unfold mny
    rw [if_neg c]
    by_cases c0 : j = 0
    · subst c0
      rw [if_pos rfl]
      rw [G.zero] at hl ⊢
      rw [nn_zero] at hl
      simp
      omega
    · rw [if_neg c0]
      have hlow := G.low (j - 1)
      rw [show j - 1 + 1 = j by omega] at hlow
      by_cases c1 : j = 1
      · subst c1
        rw [if_pos rfl]
        rw [show (1 : Nat) - 1 = 0 from rfl, G.zero, F_zero]
        rw [nn_one] at hl
        omega
      · rw [if_neg c1]
        obtain ⟨m, rfl⟩ : ∃ m, n = m + 1 := ⟨n - 1, by omega⟩
        obtain ⟨d, rfl⟩ : ∃ d, j = d + 2 := ⟨j - 2, by omega⟩
        have hb := bnd_F m d (left (m + 1) ls (d + 1)) (by omega) (left_nn _ _ _)
        have hl2 := left_iA (m + 1) ls (d + 1)
        rw [show nn (m + 1) (d + 1) - left (m + 1) ls (d + 1) = iA (m + 1) ls (d + 1) by omega] at hb
        rw [show d + 2 - 1 = d + 1 by omega] at hlow ⊢
        omega
theorem fsq_len (n : Nat) (ls : List (List Nat)) : ∀ j, (fsq n ls j).length ≤ 25
  | 0 => Nat.zero_le _
  | j + 1 => by
    have := fsq_len n ls j
    unfold fsq
    rw [List.length_append, List.length_take]
    omega
theorem fsq_mem {n : Nat} {ls : List (List Nat)} : ∀ {j : Nat} {x : List Nat}, x ∈ fsq n ls j → ∃ i, i < j ∧ x ∈ ((words n i).drop (stt n ls i)).take (mny n ls i)
  | 0, x, h => by cases h
  | j + 1, x, h => by
    unfold fsq at h
    rcases List.mem_append.mp h with h | h
    · obtain ⟨i, h1, h2⟩ := fsq_mem h
      exact ⟨i, by omega, h2⟩
    · exact ⟨j, by omega, List.mem_of_mem_take h⟩
theorem words_mem {n d : Nat} {x : List Nat} (h : x ∈ words n d) : x.length = n ∧ x.sum = d := by
  obtain ⟨i, hi⟩ := List.mem_iff_getElem?.mp h
  exact ⟨(words_at _ _ _ _ hi).1, (words_at _ _ _ _ hi).2.1⟩
theorem zero_word {n : Nat} {x : List Nat} (h1 : x.length = n) (h2 : x.sum = 0) : x = List.replicate n 0 := by
  refine List.ext_getElem (by rw [h1, List.length_replicate]) fun i a b => ?_
  rw [List.getElem_replicate]
  exact sum_zero.mp h2 _ (List.getElem_mem a)
/-- what is asked ahead of a degree's members -/
theorem fsq_cond {n : Nat} {ls : List (List Nat)} (n1 : 1 ≤ n) (hn : n ≤ 4) (hx : ∀ x ∈ ls, x.length = n) (h0 : Ok0 n ls) (j : Nat) : (fsq n ls j = [] ∨ ∃ x, (fsq n ls j)[0]? = some x ∧ (0 < x.sum ↔ ¬ isA n ls)) ∧ (isA n ls → (fsq n ls j = [] ↔ j = 0)) := by
  refine ⟨?_, fun ha => ?_⟩
  · cases h : (fsq n ls j)[0]? with
    | none => exact .inl (by simpa using h)
    | some x =>
      refine .inr ⟨x, rfl, ?_⟩
      obtain ⟨i, hi, hm⟩ := fsq_mem (List.mem_of_getElem? h)
      have hw := words_mem (List.mem_of_mem_drop (List.mem_of_mem_take hm))
      by_cases ha : isA n ls
      · have : mny n ls i ≠ 0 := fun z => by rw [z] at hm; simp at hm
        have hi0 : i = 0 := by
          unfold mny at this
          rw [if_pos ha] at this
          by_cases c : i = 0
          · exact c
          · rw [if_neg c] at this; exact absurd rfl this
        rw [hw.2, hi0]
        exact ⟨fun z => absurd z (by omega), fun z => absurd ha z⟩
      · refine ⟨fun _ => ha, fun _ => ?_⟩
        have hs := h0.resolve_left ha
        have : mny n ls i ≠ 0 := fun z => by rw [z] at hm; simp at hm
        by_cases c : i = 0
        · subst c
          unfold mny at this
          rw [if_neg ha, iA_zero hx hs] at this
          simp at this
        · rw [hw.2]; omega
  · cases j with
    | zero => simp [fsq]
    | succ j =>
      have h1 : ∀ i, fsq n ls (i + 1) ≠ [] := fun i => by
        induction i with
        | zero =>
          unfold fsq
          have hm : mny n ls 0 = 1 := by unfold mny; rw [if_pos ha, if_pos rfl]
          have hst : stt n ls 0 = 0 := by
            unfold stt
            rw [nn_zero, hm]
            omega
          rw [hm, hst]
          have hw := words_len n 0
          rw [nn_zero] at hw
          intro z
          have := congrArg List.length z
          simp [fsq, hw] at this
        | succ i ih =>
          rw [fsq]
          intro z
          exact ih (List.append_eq_nil_iff.mp z).1
      exact ⟨fun z => absurd z (h1 j), fun z => by omega⟩
theorem take_take_app {α : Type} (a b : List α) (k : Nat) : (a ++ b).take k = a.take k ++ b.take (k - (a.take k).length) := by
  rw [List.take_append, List.length_take]
  congr 1
  by_cases c : k ≤ a.length
  · rw [Nat.min_eq_left c, Nat.sub_eq_zero_of_le c, Nat.sub_self]
  · rw [Nat.min_eq_right (by omega)]
theorem fsq_frs {n : Nat} {ls : List (List Nat)} (n1 : 1 ≤ n) (hn : n ≤ 4) (hx : ∀ x ∈ ls, x.length = n) (h0 : Ok0 n ls) (last : Nat) : fsq n ls (last + 1) = frs n ls last := by
  unfold frs
  by_cases ha : isA n ls
  · rw [if_pos ha]
    induction last with
    | zero =>
      have hm : mny n ls 0 = 1 := by unfold mny; rw [if_pos ha, if_pos rfl]
      have hst : stt n ls 0 = 0 := by unfold stt; rw [nn_zero, hm]; omega
      have hw := words_len n 0
      rw [nn_zero] at hw
      obtain ⟨x, hxw⟩ : ∃ x, words n 0 = [x] := List.length_eq_one_iff.mp hw
      have h1 := words_mem (show x ∈ words n 0 by rw [hxw]; simp)
      rw [fsq, hm, hst, hxw, zero_word h1.1 h1.2]
      rfl
    | succ i ih =>
      rw [fsq, ih]
      have hm : mny n ls (i + 1) = 0 := by unfold mny; rw [if_pos ha, if_neg (by omega)]
      rw [hm]
      simp
  · rw [if_neg ha]
    have hs := h0.resolve_left ha
    have G := grows hn hx hs
    induction last with
    | zero =>
      have hm : mny n ls 0 = 0 := by unfold mny; rw [if_neg ha, G.zero]; omega
      rw [fsq, hm]
      simp [fsq, due]
    | succ i ih =>
      rw [fsq, ih, due, take_take_app]
      congr 1
      have hlow := G.low i
      have htop := G.top (i + 1)
      have hl := left_iA n ls (i + 1)
      have hm : mny n ls (i + 1) = iA n ls (i + 1) - F n (iA n ls i) := by unfold mny; rw [if_neg ha]; rfl
      have hst : stt n ls (i + 1) = F n (iA n ls i) := by unfold stt; rw [hm]; omega
      unfold dueAt
      rw [hst, hm, show i + 1 - 1 = i from rfl, List.drop_take]
section
variable {K : PySem.W.Frag} {mg : Str → Option Value} {σ : L2.St} {H H' : Hp} {ta tb tc te tl td ty : TE} {D : Ends} {tz tu : TS} {i j n : Nat} {R R' : Rl} {t : TA} {g : TG}
theorem feeds_enum {a : Addr} {vs : List V} {is : List Nat} : Feeds (Ite K a) (fun H => SqL K H a vs ∧ Pd rNat H vs is) (fun (p : Nat × Nat) H v => ∃ T, v = .ref T ∧ H T = some (.tup [.int (p.1 : Int), .int (p.2 : Int)])) ((List.range is.length).zip is) where
  go := fun i H ⟨h, pd⟩ hi => by
    rw [List.length_zip, List.length_range, Nat.min_self] at hi
    exact ⟨vs, vs[i]'(by rw [pd.1]; exact hi), h, List.getElem?_eq_getElem _⟩
  yld := fun i H x H' ⟨h, pd⟩ ⟨T, y, ex, hT, eH, hy⟩ k hk => by
    subst eH
    refine ⟨Ex.new hT, T, ex, ?_⟩
    obtain ⟨h1, h2⟩ := List.getElem?_zip_eq_some.mp hk
    have h3 := (List.getElem?_eq_some_iff.mp h1)
    obtain ⟨h4, h5⟩ := h3
    rw [List.getElem_range] at h5
    have h6 := pd.2 i y k.2 (hy vs h) h2
    have h7 : y = V.int (k.2 : Int) := h6
    rw [upd_same, h7, ← h5]
  stop := fun H ⟨h, pd⟩ => by
    refine ⟨vs, h, ?_⟩
    rw [List.length_zip, List.length_range, Nat.min_self, pd.1]
    exact Nat.le_refl _
/-- xs.extend(new list) -/
theorem s_extF {ι : Type} {S : ι → Rl} {is : List ι} {l : Addr} {xs : List V} (hl : H l = some (.lst xs)) (ha : Ev ta σ H (.ref l)) (h : EvF te σ H S is) (hz : xs.length + is.length ≤ 100000) (k : ∀ ys H1, Ex H H1 → Pd S H1 ys is → D.nx σ (upd H1 l (.lst (xs ++ ys)))) :
    tDrop (tBM K "list" rExtend ta (tCons te tNil)) D σ H := ha H (Ex.refl H) _ fun H1 e1 =>
  ⟨Or.inl ⟨rfl, xs, sq_of (e1 l _ hl)⟩, h H1 e1 _ fun p ys H2 hp e2 h2 pd => ⟨l, p, xs, ys, rfl, rfl, (e1.trans e2) l _ hl, h2, sz_of (by rw [pd.1]; exact hz), k ys H2 (e1.trans e2) pd⟩⟩
end
end PLW
end
section
set_option Elab.async false
set_option linter.all false
set_option maxRecDepth 100000
set_option maxHeartbeats 2000000
namespace PLW
open PySem PySem.Spec PyProof.Rows L2 Evl RZ
open PL PySem.W SlX
section
variable {K : PySem.W.Frag} {mg : Str → Option Value} {σ : L2.St} {H H' : Hp} {ta tb tc te tl td ty : TE} {D : Ends} {tz tu : TS} {i j n : Nat} {R R' R1 R2 : Rl} {t : TA} {g : TG}
theorem q_asgPair2 (h1 : EvP ta σ H R1) (h2 : EvP tb σ H R2) (k : ∀ a b H1 H2 H3, Ex H H1 → R1 H1 a → Ex H1 H2 → R2 H2 b → Ex H2 H3 → tz D ((σ.set i (some a)).set j (some b)) H3) : tSeq (tAsg (tTup (tCons ta (tCons tb tNil))) (gTup K 2 (gCons (gName i) (gCons (gName j) gNil)))) tz D σ H :=
  h1 H (Ex.refl H) _ fun a H1 e1 ha => h2 H1 e1 _ fun b H2 e2 hb => ⟨sz_of (show 2 ≤ 100000 by decide), fun p hp => g_tup2 (Q := fun σ' H' => tz D σ' H') (st_of upd_same) (k a b H1 H2 _ e1 ha e2 hb (Ex.new hp))⟩
theorem q_forFeeds {ι : Type} {R : ι → Rl} {is : List ι} {J : It} {St : Hp → Prop} {wi : TI} (hw : ∀ Rr : It → Hp → Prop, (∀ H1, Ex H H1 → Rr J H1) → wi σ H Rr) (fd : Feeds J St R is) (Pv : Nat → L2.St → Hp → Prop) (h0 : ∀ H1, Ex H H1 → Pv 0 σ H1) (hl : ∀ i σ' H', i ≤ is.length → Pv i σ' H' → St H')
    (hs : ∀ i k x σ' H1 H', is[i]? = some k → Ex H1 H' → R k H' x → Pv i σ' H1 → g x σ' H' fun σ2 H2 => tu { D with nx := Pv (i + 1), ct := Pv (i + 1), bk := tz D } σ2 H2) (hd : ∀ σ' H', Pv is.length σ' H' → tz D σ' H') : tSeq (tFor wi g tu) tz D σ H :=
  hw _ fun H1 e1 => for_feeds (D := { D with nx := tz D }) fd Pv (h0 H1 e1) hl hs hd
end
section
variable {P : Program} {w : World} {K : PySem.W.Frag} {mg : Str → Option Value} {base : Heap}
def sp_first_members (K : PySem.W.Frag) : Sp := spR fun vs H R => ∃ (n last : Nat) (ls : List (List Nat)) (a : Addr) (xs : List V), vs = [.int (n : Int), .ref a, .int 24] ∧ SqL K H a xs ∧ Pd rNat H xs ((List.range (last + 1)).map (left n ls)) ∧ 1 ≤ n ∧ n ≤ 4 ∧ last ≤ 60 ∧ (∀ x ∈ ls, x.length = n) ∧ Ok0 n ls ∧ R = rL K rWh (frs n ls last)
abbrev N_first_members : List Str := ["letters", "numbers", "most", "found", "degree", "number", "ahead", "many", "start", "step"]
theorem sc_first_members : FnScope N_first_members ["letters", "numbers", "most"] (defScope s_first_members) := ⟨rfl, rfl, rfl, by decide +kernel, rfl, by decide +kernel, by decide +kernel⟩
theorem has_first_members (T : Tx K mg) : Has P w K mg base "first_members" ["letters", "numbers", "most"] 6 (sp_first_members K) := by
  have h_new_members : Has P w K mg base _ _ 5 sp_new_members := has_new_members T
  have h_products_in : Has P w K mg base _ _ 2 sp_products_in := has_products_in T
  have h_product_with : Has P w K mg base _ _ 3 sp_product_with := has_product_with T
  obtain ⟨fd, F⟩ := T.fn_first_members
  refine ⟨⟨fd, F.ok sc_first_members (fun vs H Q E h => ?_) (fun cdv A outer s H vs Q E hr h => ?_), F.bindsN fun _ _ _ _ _ _ us hl => match us, hl with | [_, _, _], _ => rfl⟩, F.kp, T.g_first_members⟩
  · obtain ⟨R, ⟨n, last, ls, a, xs, rfl, _⟩, _⟩ := h; rfl
  · obtain ⟨R, ⟨n, last, ls, a, xs, rfl, ha, pd, n1, n4, hlast, hx, h0, rfl⟩, k⟩ := h
    refine ⟨_, PSs.nox (pss_cons (ps_set (i := 3) sc_first_members.nd rfl (Or.inl rfl) (pe_lst pa_nil)) (pss_cons (ps_for PassesOwn.never rfl (pi_enum (by rfl) T.enumerate_ (pa_cons (pv 1) pa_nil)) (pg_tup rfl (pgs_cons (pg_name (i := 4) sc_first_members.nd rfl (Or.inr rfl)) (pgs_cons (pg_name (i := 5) sc_first_members.nd rfl (Or.inl rfl)) pgs_nil))) (pss_cons (ps_set (i := 6) sc_first_members.nd rfl (Or.inl rfl) (pe_ifExp (pt_cmpR op_gt (pv 4) pe_int (nomark _)) (pe_ix ix_list (pv 1) (pe_op op_sub (pv 4) pe_int) (fun _ _ => rfl)) pe_int)) (pss_cons (ps_set (i := 7) sc_first_members.nd rfl (Or.inl rfl) (pe_ifExp (PW.pt (pw_or (pt_cmpR (op_eqD hr.units) (pv 3) (pe_lst pa_nil) (nomark _)) (pw_or1 (pt_cmpR op_gt (pe_callB (cr_sumT rfl) (by rfl) T.sum_ (by decide +kernel) (pa_cons (pe_ix ix_list (pv 3) pe_int (fun _ _ => rfl)) pa_nil)) pe_int (nomark _))))) (pe_h h_new_members (hr.mono (by decide)) pass0 (pa_cons (pv 0) (pa_cons (pv 4) (pa_cons (pv 5) (pa_cons (pv 6) pa_nil))))) pe_int)) (pss_cons (ps_set (i := 8) sc_first_members.nd rfl (Or.inr rfl) (pe_op op_sub (pe_op op_sub (pe_h h_products_in (hr.mono (by decide)) pass0 (pa_cons (pv 0) (pa_cons (pv 4) pa_nil))) (pv 5)) (pv 7))) (pss_one (ps_expr (pe_bm PySem.F.plainAttrs_list PySem.F.slot_list_extend PySem.F.type_list_extend mt_extend (pv 3) (pa_cons (pe_lc (own := [("step", 9)]) rfl sc_first_members.nd (pi_range1 (by rfl) T.range_ (pa_cons (pe_callB (call_min2 rfl) (by rfl) T.min_ (by decide +kernel) (pa_cons (pv 7) (pa_cons (pe_op op_sub (pe_op op_add (pv 2) pe_int) (pe_callB call_len_seq (by rfl) T.len_ (by decide +kernel) (pa_cons (pv 3) pa_nil))) pa_nil))) pa_nil)) (blkOk_by (own := [("step", 9)]) (N := N_first_members) (sc := defScope s_first_members) (by decide +kernel)) (by intro _ _ _ _ _; refine pg_nm (i := 9) ?_ ?_ ?_ ?_; exact sc_first_members.nd; exact rfl; all_goals first | exact .inl rfl | exact .inr rfl) (fun _ _ _ _ _ => pts_nil) (by intro _ _ _ _ _; exact (pe_h h_product_with (hr.mono (by decide)) pass0 (pa_cons (pv 0) (pa_cons (pv 4) (pa_cons (pe_op op_add (pv 8) (pv 9)) pa_nil)))))) pa_nil)))))))) (pss_one (ps_ret (pv 3))))), ?_⟩
    refine q_asgF (R := rWh) (is := []) evf_nil (fun l us0 H1 hl e1 h1 pd1 => ?_)
    obtain rfl : us0 = [] := by have := pd1.1; simpa using this
    have hlen : ((List.range (last + 1)).map (left n ls)).length = last + 1 := by rw [List.length_map, List.length_range]
    have ha1 := ex_l e1 ha
    have pd1' := pd.keep rNat_stb (Kp.ex e1)
    refine q_forFeeds (J := Ite K a) (fun Rr hR => ea_cons (ev_var rfl) ea_nil H1 (Ex.refl H1) _ fun H2 e2 => ⟨a, xs, rfl, ex_l e2 ha1, hR H2 e2⟩) (feeds_enum (K := K) (a := a) (vs := xs) (is := (List.range (last + 1)).map (left n ls)))
      (fun j σ' H' => ∃ us x4 x5 x6 x7 x8, σ' = [some (.int (n : Int)), some (.ref a), some (.int 24), some (.ref l), x4, x5, x6, x7, x8, none] ∧ Ex H H' ∧ H' l = some (.lst us) ∧ Pd rWh H' us (fsq n ls j))
      (fun H2 e2 => ⟨[], none, none, none, none, none, rfl, e1.trans e2, e2 _ _ h1, Pd.nil⟩) (fun j σ' H' _ ⟨us, x4, x5, x6, x7, x8, _, e, _⟩ => ⟨ex_l e ha, pd.keep rNat_stb (Kp.ex e)⟩) ?_ ?_
    · rintro j p u σ' H2 H' hjp e2 ⟨t, rfl, ht⟩ ⟨us, x4, x5, x6, x7, x8, rfl, e, hl', pdu⟩
      obtain ⟨g1, g2⟩ := List.getElem?_zip_eq_some.mp hjp
      have hj : j < last + 1 := by
        have := (List.getElem?_eq_some_iff.mp g2).1
        omega
      have hp1 : p.1 = j := by
        obtain ⟨g3, g4⟩ := List.getElem?_eq_some_iff.mp g1
        rw [List.getElem_range] at g4
        exact g4.symm
      have hp2 : p.2 = left n ls j := by
        rw [List.getElem?_map, List.getElem?_range hj] at g2
        exact (Option.some.inj g2).symm
      rw [hp1, hp2] at ht
      have e02 := e.trans e2
      have hl2 := e2 _ _ hl'
      have pdu2 := pdu.keep rWh_stb (Kp.ex e2)
      have hnn := nn_small n1 n4 (show j ≤ 100 by omega)
      have hmny := mny_ok n1 n4 hx h0 j
      have hfl := fsq_len n ls j
      refine g_tup2 (st_of ht) ?_
      refine q_asg (v := .int ((if j = 0 then 0 else left n ls (j - 1) : Nat) : Int)) (ev_if (b := decide (0 < j)) (et_is (et_test (ev_cmp (ev_var rfl) ev_c)) (natlt 0 j)) (fun c => ?_) (fun c => ?_)) (fun H3 e3 => ?_)
      · have c' := of_decide_eq_true c
        rw [if_neg (by omega)]
        obtain ⟨v, hv, hvr⟩ := (pd.keep rNat_stb (Kp.ex e02)).at (j := j - 1) (i := left n ls (j - 1)) (by rw [List.getElem?_map, List.getElem?_range (by omega)]; rfl)
        have hv2 : v = V.int ((left n ls (j - 1) : Nat) : Int) := hvr
        rw [← hv2]
        exact ev_lsAt (k := j - 1) (ev_var rfl) (ex_l e02 ha) (ev_is (ev_bin (ev_var rfl) ev_c) (by congr 1; omega)) hv
      · have c' := of_decide_eq_false c
        rw [if_pos (by omega)]
        exact ev_c
      have hcond := fsq_cond n1 n4 hx h0 j
      have hg : (if j = 0 then 0 else left n ls (j - 1)) ≤ 1000000 := by
        by_cases c : j = 0
        · rw [if_pos c]; omega
        · rw [if_neg c]
          have := left_nn n ls (j - 1)
          have := nn_small n1 n4 (show j - 1 ≤ 100 by omega)
          omega
      refine q_asg (v := .int ((mny n ls j : Nat) : Int)) (ev_if (b := decide (isA n ls → j = 0)) ?_ (fun c => ?_) (fun c => ?_)) (fun H4 e4 => ?_)
      · have hE : EvT _ [some (.int (n : Int)), some (.ref a), some (.int 24), some (.ref l), some (.int (j : Int)), some (.int ((left n ls j : Nat) : Int)), some (.int ((if j = 0 then 0 else left n ls (j - 1) : Nat) : Int)), x7, x8, none] H3 (decide (fsq n ls j = [])) := et_test (te := tOp (rEqD K) (tVar 3) (tLst tNil)) (ev_is (ev_eqD (d := .list ((fsq n ls j).map encW)) (e := .list (([] : List (List Nat)).map encW)) (evp_var rfl fun H5 e5 => dp_L ⟨l, us, rfl, sq_of ((e3.trans e5) _ _ hl2), (pdu2.keep rWh_stb (Kp.ex (e3.trans e5))).impW⟩) (fun H5 e5 Q q => el_lst (σ := _) (H := H3) ea_nil (Nat.zero_le _) H5 e5 Q fun p H6 _ e6 h6 => q _ H6 e6 (.lst (sq_of h6) .nil)) (sh_L _) (sh_L _)) (by rw [PyData.eqv, eqvA_W]))
        rcases hcond.1 with he | ⟨x, hx0, hxs⟩
        · refine et_is (a := true || false) (et_or (a := true) (b := false) (et_is hE (decide_eq_true he)) (fun z => by cases z)) ?_
          rw [decide_eq_true (fun ha' => (hcond.2 ha').mp he)]
          rfl
        · have hne : fsq n ls j ≠ [] := fun z => by rw [z] at hx0; cases hx0
          obtain ⟨v, hv, b, rfl, hb⟩ := pdu2.at hx0
          refine et_is (et_or hE (fun z => et_is (et_test (ev_cmp (ev_sumT (ev_lsAt (k := 0) (ev_var rfl) (sq_of (e3 _ _ hl2)) ev_c hv) (st_of (e3 _ _ hb))) ev_c)) (natlt 0 _))) ?_
          rw [decide_eq_false hne, Bool.false_or]
          by_cases ha' : isA n ls
          · have hj0 : j ≠ 0 := fun z => hne ((hcond.2 ha').mpr z)
            rw [decide_eq_false (fun z => hxs.mp z ha'), decide_eq_false (fun z => hj0 (z ha'))]
          · rw [decide_eq_true (hxs.mpr ha'), decide_eq_true (fun z => absurd z ha')]
      · have c' := of_decide_eq_true c
        have hnew := mny_new n1 n4 hx h0 j c'
        refine ev_is (evp_call (ea_cons (ev_var rfl) (ea_cons (ev_var rfl) (ea_cons (ev_var rfl) (ea_cons (ev_var rfl) ea_nil)))) (SpP.of fun H5 _ => ⟨n, j, left n ls j, _, rfl, hg, by omega, rfl⟩)).ev ?_
        rw [← hnew]
        congr 2
        by_cases c0 : j = 0
        · rw [if_pos c0, if_pos c0]
        · rw [if_neg c0, if_neg c0, if_neg c0]
      · have c' := of_decide_eq_false c
        have ha' : isA n ls := by
          by_cases z : isA n ls
          · exact z
          · exact absurd (fun y => absurd y z) c'
        have hj0 : j ≠ 0 := fun z => c' fun _ => z
        have hm : mny n ls j = 0 := by unfold mny; rw [if_pos ha', if_neg hj0]
        rw [hm]
        exact ev_c
      refine q_asg (v := .int ((stt n ls j : Nat) : Int)) (ev_is (ev_bin (ev_bin (evp_call (ea_cons (ev_var rfl) (ea_cons (ev_var rfl) ea_nil)) (SpP.of fun H5 _ => ⟨n, j, rfl, n1, by omega, by omega, rfl⟩)).ev (ev_var rfl)) (ev_var rfl)) (by unfold stt; congr 1; omega)) (fun H5 e5 => ?_)
      have hl5 := ((e3.trans e4).trans e5) _ _ hl2
      have pdu5 := pdu2.keep rWh_stb (Kp.ex ((e3.trans e4).trans e5))
      have hul : us.length = (fsq n ls j).length := pdu.1
      refine s_extF (S := rWh) (is := (((words n j).drop (stt n ls j)).take (mny n ls j)).take (25 - (fsq n ls j).length)) hl5 (ev_var rfl) (by
        have hlist : (((words n j).drop (stt n ls j)).take (mny n ls j)).take (25 - (fsq n ls j).length) = (List.range (min (mny n ls j) (25 - (fsq n ls j).length))).map fun s => ((words n j)[stt n ls j + s]?).getD [] := by
          refine List.ext_getElem? fun s => ?_
          rw [List.take_take, List.getElem?_take, List.getElem?_map]
          have hwl := words_len n j
          by_cases c : s < min (mny n ls j) (25 - (fsq n ls j).length)
          · rw [if_pos (by rw [Nat.min_comm]; exact c), List.getElem?_range c, List.getElem?_drop]
            have hs : stt n ls j + s < (words n j).length := by unfold stt; omega
            rw [Option.map_some, List.getElem?_eq_getElem hs]
            rfl
          · rw [if_neg (by rw [Nat.min_comm]; exact c), List.getElem?_eq_none (by rw [List.length_range]; omega)]
            simp
        rw [hlist]
        refine evf_lc0 (u := fun s : Nat => ((words n j)[stt n ls j + s]?).getD []) (S := rWh) (ei_rng1 (n := min (mny n ls j) (25 - (fsq n ls j).length)) (ea_cons (ev_is (ev_cb (ea_cons (ev_var rfl) (ea_cons (ev_bin (ev_bin (ev_var rfl) ev_c) (ev_lenL (ev_var rfl) (sq_of hl5))) ea_nil)) fun H6 _ Q z => ⟨_, _, rfl, z⟩) ?_) ea_nil) (by omega)) rWh_stb (by rw [List.length_range]; omega) gm_name ?_
        · rw [hul]
          congr 1
          split <;> omega
        · intro s x H6 e6 hs hxs
          have hx2 : x = V.int (s : Int) := hxs
          subst hx2
          have hsn := List.mem_range.mp hs
          refine ⟨rfl, rfl, (evp_call (ea_cons (ev_var rfl) (ea_cons (ev_var rfl) (ea_cons (ev_is (ev_bin (ev_var rfl) (ev_var rfl)) (show V.int (((stt n ls j : Nat) : Int) + (s : Int)) = V.int ((stt n ls j + s : Nat) : Int) by congr 1)) ea_nil))) (SpP.of fun H7 _ => ⟨n, j, stt n ls j + s, rfl, n1, n4, by omega, by unfold stt; omega, rfl⟩)).imp fun H7 v ⟨y, hy, hyr⟩ => ?_⟩
          rw [hy]
          exact hyr) (by rw [hul, List.length_take]; omega) (fun ys H6 e6 pdy => ⟨us ++ ys, _, _, _, _, _, rfl, Ex.mut ((((e02.trans e3).trans e4).trans e5).trans e6) hl, upd_same, ?_⟩)
      rw [fsq]
      exact ((pdu5.keep rWh_stb (Kp.ex e6)).append pdy).keep rWh_stb (Kp.lst (e6 _ _ hl5))
    · rintro σ' H' ⟨us, x4, x5, x6, x7, x8, rfl, e, hl', pdu⟩
      have hz : ((List.range ((List.range (last + 1)).map (left n ls)).length).zip ((List.range (last + 1)).map (left n ls))).length = last + 1 := by rw [List.length_zip, List.length_range, hlen, Nat.min_self]
      rw [hz, fsq_frs n1 n4 hx h0] at pdu
      exact s_ret (v := .ref l) (ev_var rfl) (fun H2 e2 => k _ H2 (e.trans e2) ⟨l, us, rfl, sq_of (e2 _ _ hl'), pdu.keep rWh_stb (Kp.ex e2)⟩)
end
end PLW
end
section
set_option Elab.async false
set_option linter.all false
set_option maxRecDepth 100000
set_option maxHeartbeats 2000000
namespace PLW
open PySem PySem.Spec PyProof.Rows L2 Evl RZ
open PL PySem.W SlX
theorem frs_mem {n : Nat} {ls : List (List Nat)} {last : Nat} {x : List Nat} (h : x ∈ frs n ls last) : x.length = n ∧ x.sum ≤ last := by
  unfold frs at h
  split at h
  · rw [List.mem_singleton] at h
    subst h
    exact ⟨List.length_replicate, by simp⟩
  · have := mem_due.mp (List.mem_of_mem_take h)
    exact ⟨this.1, this.2.2.1⟩
theorem mem_le_sum : ∀ {x : List Nat} {k : Nat}, k ∈ x → k ≤ x.sum
  | a :: x, k, h => by
    rw [List.sum_cons]
    rcases List.mem_cons.mp h with e | e
    · omega
    · have := mem_le_sum e; omega
theorem et_gtP {σ : L2.St} {H : Hp} {te : TE} {b : Int} (h : EvP te σ H fun _ v => ∃ m, v = .int m ∧ m ≤ b) : EvT (tTest (tOp (rI0 fun i j => .bl (decide (i > j))) te (tC (.int b)))) σ H false := fun H1 e Q q =>
  h H1 e _ fun v H2 e2 ⟨m, em, hm⟩ => ⟨m, b, em, rfl, false, (show V.bl (decide (m > b)) = V.bl false by rw [decide_eq_false (by omega)]), q H2 e2⟩
section
variable {P : Program} {w : World} {K : PySem.W.Frag} {mg : Str → Option Value} {base : Heap}
def sp_members_like (K : PySem.W.Frag) : Sp := spR fun vs H R => ∃ (n : Nat) (ls : List (List Nat)) (v : V), vs = [v] ∧ rLo K n ls H v ∧ Fine n ls ∧ Ok0 n ls ∧ mt n ls 60 = true ∧ R = fun H v => ∃ f, Down (mt n ls) f ∧ rL K rWh (frs n ls f) H v
abbrev N_members_like : List Str := ["lot", "last", "counts", "numbers", "degree"]
theorem sc_members_like : FnScope N_members_like ["lot"] (defScope s_members_like) := ⟨rfl, rfl, rfl, by decide +kernel, rfl, by decide +kernel, by decide +kernel⟩
theorem has_members_like (T : Tx K mg) (C : Cl K mg) : Has P w K mg base "members_like" ["lot"] 206 (sp_members_like K) := by
  have h_require_lot : Has P w K mg base _ _ 1 (sp_require_lot K) := has_require_lot T C
  have h_least_met : Has P w K mg base _ _ 205 (sp_least_met K) := has_least_met T C
  have h_numerator_in : Has P w K mg base _ _ 204 (sp_numerator_in K) := has_numerator_in T C
  have h_count_at : Has P w K mg base _ _ 2 (sp_count_at K) := has_count_at T C
  have h_first_members : Has P w K mg base _ _ 6 (sp_first_members K) := has_first_members T
  obtain ⟨_, m_MOST_FIRST_LETTERS⟩ := T.i_MOST_FIRST_LETTERS
  obtain ⟨_, m_MOST_MEMBERS⟩ := T.i_MOST_MEMBERS
  obtain ⟨fd, F⟩ := T.fn_members_like
  refine ⟨⟨fd, F.ok sc_members_like (fun vs H Q E h => ?_) (fun cdv A outer s H vs Q E hr h => ?_), F.bindsN fun _ _ _ _ _ _ us hl => match us, hl with | [_], _ => rfl⟩, F.kp, T.g_members_like⟩
  · obtain ⟨R, ⟨n, ls, v, rfl, _⟩, _⟩ := h; rfl
  · obtain ⟨R, ⟨n, ls, v, rfl, hv, hf, h0, h60, rfl⟩, k⟩ := h
    refine ⟨_, PSs.nox (pss_cons (ps_expr (pe_h h_require_lot (hr.mono (by decide)) pass0 (pa_cons (pv 0) pa_nil))) (pss_cons (ps_if (pt_cmpR op_gt (pe_sl (pv 0)) (pe_glob (v := .int 4) rfl m_MOST_FIRST_LETTERS ⟨_, rfl⟩) (nomark _)) (pss_one ps_never) pss_nil) (pss_cons (ps_asg (pe_tup (pa_cons (pe_h h_least_met (hr.mono (by decide)) pass0 (pa_cons (pv 0) pa_nil)) (pa_cons (pe_fz (pe_h h_numerator_in (hr.mono (by decide)) pass0 (pa_cons (pv 0) pa_nil))) pa_nil))) (pg_tup rfl (pgs_cons (pg_name (i := 1) sc_members_like.nd rfl (Or.inl rfl)) (pgs_cons (pg_name (i := 2) sc_members_like.nd rfl (Or.inr rfl)) pgs_nil)))) (pss_cons (ps_setLc (i := 3) (own := [("degree", 4)]) rfl sc_members_like.nd rfl rfl (sw_true rfl rfl rfl (by decide +kernel)) (pi_range1 (by rfl) T.range_ (pa_cons (pe_op op_add (pv 1) pe_int) pa_nil)) (blkOk_by (own := [("degree", 4)]) (N := N_members_like) (sc := defScope s_members_like) (by decide +kernel)) (by intro _ _ _ _ _; refine pg_nm (i := 4) ?_ ?_ ?_ ?_; exact sc_members_like.nd; exact rfl; all_goals first | exact .inl rfl | exact .inr rfl) (fun _ _ _ _ _ => pts_nil) (by intro _ _ _ _ _; exact (pe_h h_count_at (hr.mono (by decide)) pass0 (pa_cons (pv 0) (pa_cons (pv 2) (pa_cons (pv 4) pa_nil)))))) (pss_one (ps_ret (pe_h h_first_members (hr.mono (by decide)) pass0 (pa_cons (pe_sl (pv 0)) (pa_cons (pv 3) (pa_cons (pe_glob (v := .int 24) rfl m_MOST_MEMBERS ⟨_, rfl⟩) pa_nil)))))))))), ?_⟩
    have n1 := hf.n1
    have n4 := hf.n4
    refine q_drop (v := .non) (evp_call (ea_cons (ev_var rfl) ea_nil) (SpP.of fun H1 e1 => ⟨n, ls, v, rfl, rLo_ex e1 hv, rfl⟩)).ev (fun H1 e1 => ?_)
    refine q_when (b := false) (et_is (et_test (ev_cmp (ev_letters C (evp_var (R := rLot K n (rTs K (rW K) ls)) rfl fun H2 e2 => rLo_ex (e1.trans e2) hv)) ev_c)) (decide_eq_false (by omega))) (fun z => by cases z) (fun _ H2 e2 => ?_)
    have e12 := e1.trans e2
    refine q_asgPair2 (R1 := fun _ v => ∃ f : Nat, v = .int (f : Int) ∧ Down (mt n ls) f) (R2 := fun H v => ∃ N, (Num n ls N ∧ Canon N ∧ kB N 32) ∧ rD N H v) (evp_call (ea_cons (ev_var rfl) ea_nil) (SpP.of fun H3 e3 => ⟨n, ls, v, rfl, rLo_ex (e12.trans e3) hv, hf, h60, rfl⟩)) (evp_fz (evd_call (ea_cons (ev_var rfl) ea_nil) (fun H3 e3 => ⟨n, ls, v, rfl, rLo_ex (e12.trans e3) hv, hf, rfl⟩))) (fun a c H3 H4 H5 e3 ⟨f, ef, hdn⟩ e4 ⟨N, ⟨g1, g2, g3⟩, hc⟩ e5 => ?_)
    subst ef
    have e15 := ((e12.trans e3).trans e4).trans e5
    have hc5 := rD_ex e5 hc
    have hlen : N.length ≤ 1000 := by have := nd_len (canon_nd g2) g3; omega
    have f60 := hdn.f60
    refine q_asgF (R := rNat) (is := (List.range (f + 1)).map (left n ls)) (evf_lc0 (u := left n ls) (S := rNat) (ei_rng1 (n := f + 1) (ea_cons (ev_is (ev_bin (ev_var rfl) ev_c) rfl) ea_nil) (by omega)) rNat_stb (by rw [List.length_range]; omega) gm_name ?_) (fun p vs H6 hp e6 h6 pd6 => ?_)
    · intro d x H6 e6 hd hx
      have hx2 : x = V.int (d : Int) := hx
      subst hx2
      have hdl := List.mem_range.mp hd
      exact ⟨rfl, rfl, evp_call (ea_cons (ev_var rfl) (ea_cons (ev_var rfl) (ea_cons (ev_var rfl) ea_nil))) (SpP.of fun H7 e7 => ⟨n, d, ls, N, v, c, rfl, rLo_ex ((e15.trans e6).trans e7) hv, rD_ex (e6.trans e7) hc5, g1, hlen, n1, n4, by omega, rfl⟩)⟩
    · refine s_retP (evp_call (ea_cons (ev_letters C (evp_var (R := rLot K n (rTs K (rW K) ls)) rfl fun H7 e7 => rLo_ex ((e15.trans e6).trans e7) hv)) (ea_cons (ev_var rfl) (ea_cons ev_c ea_nil))) (SpP.of fun H7 e7 => ⟨n, f, ls, p, vs, rfl, sq_of (e7 _ _ h6), pd6.keep rNat_stb (Kp.ex e7), n1, n4, f60, fun x hx => (hf.len x hx).1, h0, rfl⟩)) (fun u H7 e7 hu => k u H7 ((e15.trans e6).trans e7) ⟨f, hdn, hu⟩)
def sp_first_lot_like (K : PySem.W.Frag) : Sp := spR fun vs H R => ∃ (n f : Nat) (ls : List (List Nat)) (v : V), vs = [v] ∧ rLo K n ls H v ∧ Fine n ls ∧ Ok0 n ls ∧ mt n ls 60 = true ∧ Down (mt n ls) f ∧ f ≤ 7 ∧ (frs n ls f).length ≤ 24 ∧ R = fun H v => ∃ ms, Least (frs n ls f) ms ∧ rLo K n ms H v
abbrev N_first_lot_like : List Str := ["lot", "found", "member"]
theorem sc_first_lot_like : FnScope N_first_lot_like ["lot"] (defScope s_first_lot_like) := ⟨rfl, rfl, rfl, by decide +kernel, rfl, by decide +kernel, by decide +kernel⟩
theorem has_first_lot_like (T : Tx K mg) (C : Cl K mg) : Has P w K mg base "first_lot_like" ["lot"] 207 (sp_first_lot_like K) := by
  have h_members_like : Has P w K mg base _ _ 206 (sp_members_like K) := has_members_like T C
  have h_made_lot : Has P w K mg base _ _ 8 (sp_made_lot K) := has_made_lot T C
  obtain ⟨_, m_MOST_EXPONENT⟩ := T.i_MOST_EXPONENT
  obtain ⟨_, m_MOST_MEMBERS⟩ := T.i_MOST_MEMBERS
  obtain ⟨fd, F⟩ := T.fn_first_lot_like
  refine ⟨⟨fd, F.ok sc_first_lot_like (fun vs H Q E h => ?_) (fun cdv A outer s H vs Q E hr h => ?_), F.bindsN fun _ _ _ _ _ _ us hl => match us, hl with | [_], _ => rfl⟩, F.kp, T.g_first_lot_like⟩
  · obtain ⟨R, ⟨n, f, ls, v, rfl, _⟩, _⟩ := h; rfl
  · obtain ⟨R, ⟨n, f, ls, v, rfl, hv, hf, h0, h60, hdn, f7, hl24, rfl⟩, k⟩ := h
    refine ⟨_, PSs.nox (pss_cons (ps_set (i := 1) sc_first_lot_like.nd rfl (Or.inl rfl) (pe_h h_members_like (hr.mono (by decide)) pass0 (pa_cons (pv 0) pa_nil))) (pss_cons (ps_if (pt_cmpR op_gt (pe_callB call_len_seq (by rfl) T.len_ (by decide +kernel) (pa_cons (pv 1) pa_nil)) (pe_glob (v := .int 24) rfl m_MOST_MEMBERS ⟨_, rfl⟩) (nomark _)) (pss_one ps_never) pss_nil) (pss_cons (ps_if (pt_cmpR op_gt (pe_callBK (cr_maxD rfl (hu_of hr)) (by rfl) T.max_ (by decide +kernel) (pa_cons (pe_lc (own := [("member", 2)]) rfl sc_first_lot_like.nd (pi_list (pv 1)) (blkOk_by (own := [("member", 2)]) (N := N_first_lot_like) (sc := defScope s_first_lot_like) (by decide +kernel)) (by intro _ _ _ _ _; refine pg_nm (i := 2) ?_ ?_ ?_ ?_; exact sc_first_lot_like.nd; exact rfl; all_goals first | exact .inl rfl | exact .inr rfl) (fun _ _ _ _ _ => pts_nil) (by intro _ _ _ _ _; exact (pe_callB (cr_maxTK (K := K) rfl rfl (hu_of hr)) (by rfl) T.max_ (by decide +kernel) (pa_cons (pv 2) pa_nil)))) pa_nil) (pk_cons pe_int pk_nil)) (pe_glob (v := .int 8) rfl m_MOST_EXPONENT ⟨_, rfl⟩) (nomark _)) (pss_one ps_never) pss_nil) (pss_one (ps_ret (pe_h h_made_lot (hr.mono (by decide)) pass0 (pa_cons (pe_sl (pv 0)) (pa_cons (pv 1) pa_nil)))))))), ?_⟩
    have n1 := hf.n1
    have n4 := hf.n4
    refine q_asgP (Rr := rL K rWh (frs n ls f)) ((evp_call (ea_cons (ev_var rfl) ea_nil) (SpP.of fun H1 e1 => ⟨n, ls, v, rfl, rLo_ex e1 hv, hf, h0, h60, rfl⟩)).imp fun H1 u ⟨f', hdn', hu⟩ => by rw [hdn.uniq hdn']; exact hu) (fun u H1 e1 ⟨p, us, eu, hp, pd⟩ => ?_)
    subst eu
    refine q_when (b := false) (et_is (et_test (ev_cmp (ev_lenL (ev_var rfl) hp) ev_c)) (decide_eq_false (by rw [pd.1]; omega))) (fun z => by cases z) (fun _ H2 e2 => ?_)
    have hmx : ∀ x ∈ frs n ls f, ∃ g ∈ x, (∀ y ∈ x, y ≤ g) ∧ g ≤ 7 := fun x hx => by
      have h1 := frs_mem hx
      obtain ⟨g, g1, g2⟩ := max_mem x (fun z => by rw [z] at h1; simp at h1; omega)
      exact ⟨g, g1, g2, by have := mem_le_sum g1; omega⟩
    have e12 := e1.trans e2
    refine q_when (b := false) ?_ (fun z => by cases z) (fun _ H3 e3 => ?_)
    · refine et_gtP (b := 8) ((evp_maxD (ns := (frs n ls f).map fun x => (((x.max?).getD 0 : Nat) : Int)) (evp_lc0 (u := fun x : List Nat => (((x.max?).getD 0 : Nat) : Int)) (ei_list (R := rWh) rWh_stb (evp_var rfl fun H4 e4 => ⟨p, us, rfl, ex_l (e2.trans e4) hp, pd.keep rWh_stb (Kp.ex (e2.trans e4))⟩)) rInt_stb (by omega) gm_name ?_)).imp fun H4 m ⟨mv, em, hcase⟩ => ⟨mv, em, ?_⟩)
      · rintro x y H4 e4 hx ⟨b, rfl, hb⟩
        obtain ⟨g, g1, g2, g3⟩ := hmx x hx
        have hmax : x.max? = some g := by
          rw [List.max?_eq_some_iff]
          exact ⟨g1, g2⟩
        rw [hmax]
        exact ⟨rfl, rfl, EvP.of (ev_maxT (ev_var rfl) (st_of hb) g1 g2)⟩
      · rcases hcase with ⟨_, z⟩ | ⟨hmem, _⟩
        · omega
        · obtain ⟨x, hx, rfl⟩ := List.mem_map.mp hmem
          obtain ⟨g, g1, g2, g3⟩ := hmx x hx
          have hmax : x.max? = some g := by
            rw [List.max?_eq_some_iff]
            exact ⟨g1, g2⟩
          rw [hmax]
          show ((g : Nat) : Int) ≤ 8
          omega
    · have e13 := e12.trans e3
      refine s_retP (evp_call (ea_cons (ev_letters C (evp_var (R := rLot K n (rTs K (rW K) ls)) rfl fun H4 e4 => rLo_ex (e13.trans e4) hv)) (ea_cons (ev_var rfl) ea_nil)) (SpP.of fun H4 e4 => ⟨frs n ls f, n, p, us, rfl, .inl (ex_l ((e2.trans e3).trans e4) hp), pd.keep rWh_stb (Kp.ex ((e2.trans e3).trans e4)), fun x hx => ⟨(frs_mem hx).1, fun y hy => by have := mem_le_sum hy; have := (frs_mem hx).2; omega⟩, n1, by omega, hl24, rfl⟩)) (fun u H4 e4 hu => k u H4 (e13.trans e4) hu)
def sp_is_first_lot (K : PySem.W.Frag) : Sp := spR fun vs H R => ∃ (n f : Nat) (ls : List (List Nat)) (v : V), vs = [v] ∧ rLo K n ls H v ∧ Fine n ls ∧ Ok0 n ls ∧ mt n ls 60 = true ∧ Down (mt n ls) f ∧ R = fun _ v => ∃ so, so.Perm (frs n ls f) ∧ so.Pairwise leW ∧ v = .bl (decide (so = ls))
abbrev N_is_first_lot : List Str := ["lot"]
theorem sc_is_first_lot : FnScope N_is_first_lot ["lot"] (defScope s_is_first_lot) := ⟨rfl, rfl, rfl, by decide +kernel, rfl, by decide +kernel, by decide +kernel⟩
theorem has_is_first_lot (T : Tx K mg) (C : Cl K mg) : Has P w K mg base "is_first_lot" ["lot"] 207 (sp_is_first_lot K) := by
  have h_members_like : Has P w K mg base _ _ 206 (sp_members_like K) := has_members_like T C
  obtain ⟨fd, F⟩ := T.fn_is_first_lot
  refine ⟨⟨fd, F.ok sc_is_first_lot (fun vs H Q E h => ?_) (fun cdv A outer s H vs Q E hr h => ?_), F.bindsN fun _ _ _ _ _ _ us hl => match us, hl with | [_], _ => rfl⟩, F.kp, T.g_is_first_lot⟩
  · obtain ⟨R, ⟨n, f, ls, v, rfl, _⟩, _⟩ := h; rfl
  · obtain ⟨R, ⟨n, f, ls, v, rfl, hv, hf, h0, h60, hdn, rfl⟩, k⟩ := h
    refine ⟨_, PSs.nox (pss_one (ps_ret (pe_cmpR (op_eqD hr.units) (pe_tupleOf (by rfl) T.tuple_ (pe_callB (cr_sortW hr.units) (by rfl) T.sorted_ (by decide +kernel) (pa_cons (pe_h h_members_like (hr.mono (by decide)) pass0 (pa_cons (pv 0) pa_nil)) pa_nil))) (pe_sl (pv 0)) (nomark _)))), ?_⟩
    have n1 := hf.n1
    refine s_retP (R := fun _ v => ∃ so, so.Perm (frs n ls f) ∧ so.Pairwise leW ∧ v = .bl (decide (so = ls))) (fun H1 e1 Q' q => ?_) (fun u H1 e1 hu => k u H1 e1 hu)
    refine evp_tupSort (K := K) (fs := frs n ls f) (σ := [some v]) (H := H) ((evp_call (ea_cons (ev_var rfl) ea_nil) (SpP.of fun H2 e2 => ⟨n, ls, v, rfl, rLo_ex e2 hv, hf, h0, h60, rfl⟩)).imp fun H2 u ⟨f', hdn', p, us, eu, hp, pd⟩ => ⟨p, us, eu, hp, by rw [hdn.uniq hdn']; exact pd.impW⟩) (fun m hm => ?_) H1 e1 _ (fun u H2 e2 ⟨so, s1, s2, hu⟩ => ?_)
    · have h5 := (frs_mem hm).1
      intro z
      rw [z] at h5
      simp at h5
      omega
    · exact evp_members C (σ := [some v]) (H := H) (evp_var (i := 0) (R := rLot K n (rTs K (rW K) ls)) rfl fun H3 e3 => rLo_ex e3 hv) H2 (e1.trans e2) _ fun u3 H3 e3 hu3 => ⟨.tuple (so.map encW), .tuple (ls.map encW), dp_T (rTs_stb (rW_stb K) (Kp.ex e3) hu), dp_T hu3, sh_T _, sh_T _, by
        rw [PyData.eqv, eqvA_W]
        exact q _ H3 (e2.trans e3) ⟨so, s1, s2, rfl⟩⟩
end
end PLW
end
section
set_option Elab.async false
set_option linter.all false
set_option maxRecDepth 100000
set_option maxHeartbeats 2000000
namespace PLW
open PySem PySem.Spec PyProof.Rows L2 Evl RZ
open PL PySem.W SlX
/-! the law's source of numbers: a list of three ints at t, written at each draw -/
def Tub (H : Hp) (t : Addr) : Prop := ∃ a b c : Int, H t = some (.lst [.int a, .int b, .int c])
/-- all but t stands -/
def ExB (t : Addr) (H H' : Hp) : Prop := ∀ b o, b ≠ t → H b = some o → H' b = some o
theorem ExB.refl (t : Addr) (H : Hp) : ExB t H H := fun _ _ _ h => h
theorem ExB.trans {t : Addr} {H H1 H2 : Hp} (a : ExB t H H1) (b : ExB t H1 H2) : ExB t H H2 := fun c o n h => b c o n (a c o n h)
theorem ExB.ex {t : Addr} {H H' : Hp} (e : Ex H H') : ExB t H H' := fun _ _ _ h => e _ _ h
theorem ExB.tub {t : Addr} {H : Hp} {o : HO} : ExB t H (upd H t o) := fun b _ n h => by rw [upd_ne n]; exact h
theorem Tub.ex {t : Addr} {H H' : Hp} (e : Ex H H') : Tub H t → Tub H' t := fun ⟨a, b, c, h⟩ => ⟨a, b, c, e _ _ h⟩
theorem ExB.kp {t : Addr} {H H' : Hp} (ht : Tub H t) (e : ExB t H H') : Kp H H' := fun b u => by
  obtain ⟨x, y, z, h⟩ := ht
  have ne : ∀ {o : HO}, H b = some o → (∀ xs, o ≠ .lst xs) → b ≠ t := fun {o} hb hn c => by
    rw [c, h] at hb
    exact hn _ (Option.some.inj hb).symm
  refine ⟨fun hb => ?_, fun hb => e _ _ (ne hb (fun _ z => by cases z)) hb⟩
  rcases hb with hb | ⟨q, hb⟩
  · exact .inl (e _ _ (ne hb (fun _ z => by cases z)) hb)
  · exact .inr ⟨q, e _ _ (ne hb (fun _ z => by cases z)) hb⟩
section
variable {P : Program} {w : World} {K : PySem.W.Frag} {mg : Str → Option Value} {base : Heap}
def sp_law_pour : Sp := fun vs H Q _ => ∃ (t : Addr) (n : Nat), vs = [.ref t, .int (n : Int)] ∧ Tub H t ∧ 0 < n ∧ n < 1000000 ∧ ∀ (i : Nat) H2, i < n → ExB t H H2 → Tub H2 t → Q (.int (i : Int)) H2
abbrev N_law_pour : List Str := ["_law_tub_here", "_law_total", "_law_found", "_law_one", "_law_two"]
theorem sc_law_pour : FnScope N_law_pour ["_law_tub_here", "_law_total"] (defScope s_law_pour) := ⟨rfl, rfl, rfl, by decide +kernel, rfl, by decide +kernel, by decide +kernel⟩
theorem has_law_pour (T : Tx K mg) : Has P w K mg base "_law_pour" ["_law_tub_here", "_law_total"] 1 sp_law_pour := by
  obtain ⟨fd, F⟩ := T.fn_law_pour
  refine ⟨⟨fd, F.ok sc_law_pour (fun vs H Q E h => ?_) (fun cdv A outer s H vs Q E hr h => ?_), F.bindsN fun _ _ _ _ _ _ us hl => match us, hl with | [_, _], _ => rfl⟩, F.kp, T.g_law_pour⟩
  · obtain ⟨t, n, rfl, _⟩ := h; rfl
  · obtain ⟨t, n, rfl, ⟨a, b, c, ht⟩, n0, n1, k⟩ := h
    have hmod : ∀ x : Int, ∃ i : Nat, x % (n : Int) = (i : Int) ∧ i < n := fun x => by
      have h1 := Int.emod_nonneg x (show (n : Int) ≠ 0 by omega)
      have h2 := Int.emod_lt_of_pos x (show (0 : Int) < (n : Int) by omega)
      exact ⟨(x % (n : Int)).toNat, by omega, by omega⟩
    refine ⟨_, PSs.nox (pss_cons (ps_if (pt_cmpR op_gt (pe_ix ix_list (pv 0) pe_int (fun _ _ => rfl)) pe_int (nomark _)) (pss_cons (ps_set (i := 2) sc_law_pour.nd rfl (Or.inl rfl) (pe_op op_mod (pe_callTy call_int1 (by rfl) T.int_ (by decide +kernel) (pa_cons (pe_ix ix_list (pv 0) pe_int (fun _ _ => rfl)) pa_nil)) (pv 1))) (pss_cons (ps_asg (pe_op op_fdiv (pe_ix ix_list (pv 0) pe_int (fun _ _ => rfl)) (pv 1)) (pg_sub (pv 0) pe_int set_list)) (pss_one (ps_ret (pv 2))))) pss_nil) (pss_cons (ps_asg (pe_op op_add (pe_ix ix_list (pv 0) pe_int (fun _ _ => rfl)) pe_int) (pg_sub (pv 0) pe_int set_list)) (pss_cons (ps_set (i := 3) sc_law_pour.nd rfl (Or.inl rfl) (pe_op op_mod (pe_callTy call_int1 (by rfl) T.int_ (by decide +kernel) (pa_cons (pe_op op_add (pe_ix ix_list (pv 0) pe_int (fun _ _ => rfl)) (pe_op op_mul pe_int (pe_ix ix_list (pv 0) pe_int (fun _ _ => rfl)))) pa_nil)) pe_int)) (pss_cons (ps_set (i := 4) sc_law_pour.nd rfl (Or.inl rfl) (pe_op op_add (pe_op op_mul (pe_op op_mod (pe_callTy call_int1 (by rfl) T.int_ (by decide +kernel) (pa_cons (pe_op op_add (pe_op op_mul (pv 3) (pv 3)) (pe_op op_mul pe_int (pe_ix ix_list (pv 0) pe_int (fun _ _ => rfl)))) pa_nil)) pe_int) pe_int) (pv 3))) (pss_one (ps_ret (pe_op op_mod (pe_callTy call_int1 (by rfl) T.int_ (by decide +kernel) (pa_cons (pe_op op_fdiv (pv 4) pe_int) pa_nil)) (pv 1)))))))), ?_⟩
    have e0 : ∀ {te : TE} {σ : L2.St} {H : Hp}, Ev te σ H (.ref t) → H t = some (.lst [.int a, .int b, .int c]) → Ev (tOp (rIxL K) te (tC (.int 0))) σ H (.int a) := fun h1 h2 => ev_lsAt (k := 0) h1 (sq_of h2) ev_c rfl
    refine q_when (et_test (ev_cmp (e0 (ev_var rfl) ht) ev_c)) (fun z H1 e1 => ?_) (fun z H1 e1 => ?_)
    · have h1 := e1 _ _ ht
      refine q_asg (v := .int (a % (n : Int))) (ev_op (ev_cb (ea_cons (e0 (ev_var rfl) h1) ea_nil) fun H2 _ Q q => .inl ⟨a, rfl, q⟩) (ev_var rfl) (rv_I (show (0 : Int) < (n : Int) by omega))) (fun H2 e2 => ?_)
      have h2 := e2 _ _ h1
      refine q_setL (j := 0) h2 (ev_fdiv (e0 (ev_var rfl) h2) (ev_var rfl) ⟨by omega, by omega⟩) (ev_var rfl) ev_c (show 0 < 3 by decide) (fun H3 e3 => ?_)
      obtain ⟨i, hi, hin⟩ := hmod a
      refine s_ret (v := .int (i : Int)) (by rw [← hi]; exact ev_var rfl) (fun H4 e4 => k i H4 hin ((ExB.ex ((e1.trans e2).trans e3)).trans (ExB.tub.trans (ExB.ex e4))) ⟨a / (n : Int), b, c, e4 _ _ upd_same⟩)
    · have h1 := e1 _ _ ht
      refine q_setL (j := 2) h1 (ev_bin (ev_lsAt (k := 2) (ev_var rfl) (sq_of h1) ev_c rfl) ev_c) (ev_var rfl) ev_c (show 2 < 3 by decide) (fun H2 e2 => ?_)
      have h2 : (upd H2 t (.lst ([V.int a, V.int b, V.int c].set 2 (.int (c + 1))))) t = some (.lst [.int a, .int b, .int (c + 1)]) := upd_same
      have e12 : ExB t H (upd H2 t (.lst ([V.int a, V.int b, V.int c].set 2 (.int (c + 1))))) := (ExB.ex (e1.trans e2)).trans ExB.tub
      generalize (upd H2 t (.lst ([V.int a, V.int b, V.int c].set 2 (.int (c + 1))))) = H3 at h2 e12
      have b2 : ∀ {te : TE} {σ : L2.St} {H : Hp}, Ev te σ H (.ref t) → H t = some (.lst [.int a, .int b, .int (c + 1)]) → Ev (tOp (rIxL K) te (tC (.int 2))) σ H (.int (c + 1)) := fun h1 h2 => ev_lsAt (k := 2) h1 (sq_of h2) ev_c rfl
      let o : Int := (b + 2750159 * (c + 1)) % 2305843009213693951
      have ho : 0 ≤ o ∧ o < 2305843009213693951 := ⟨Int.emod_nonneg _ (by decide), Int.emod_lt_of_pos _ (by decide)⟩
      refine q_asg (v := .int o) (ev_op (ev_cb (ea_cons (ev_bin (ev_lsAt (k := 1) (ev_var rfl) (sq_of h2) ev_c rfl) (ev_mul ev_c (b2 (ev_var rfl) h2) (.inl ⟨by decide, by decide⟩))) ea_nil) fun H4 _ Q q => .inl ⟨_, rfl, q⟩) ev_c (rv_I (by decide))) (fun H4 e4 => ?_)
      have h4 := e4 _ _ h2
      generalize hoo : o = oo at ho
      refine q_asg (v := .int ((oo * oo + 331 * (c + 1)) % 2305843009213693951 * 86028121 + oo)) (ev_bin (ev_mul (ev_op (ev_cb (ea_cons (ev_bin (ev_mul (ev_var rfl) (ev_var rfl) (.inl ⟨by omega, by omega⟩)) (ev_mul ev_c (b2 (ev_var rfl) h4) (.inl ⟨by decide, by decide⟩))) ea_nil) fun H5 _ Q q => .inl ⟨_, rfl, q⟩) ev_c (rv_I (by decide))) ev_c (.inr ⟨by decide, by decide⟩)) (ev_var rfl)) (fun H5 e5 => ?_)
      obtain ⟨i, hi, hin⟩ := hmod (((oo * oo + 331 * (c + 1)) % 2305843009213693951 * 86028121 + oo) / 32768)
      refine s_ret (v := .int (i : Int)) (by
        rw [← hi]
        exact ev_op (ev_cb (ea_cons (ev_fdiv (ev_var rfl) ev_c ⟨by decide, by decide⟩) ea_nil) fun H6 _ Q q => .inl ⟨_, rfl, q⟩) (ev_var rfl) (rv_I (show (0 : Int) < (n : Int) by omega))) (fun H6 e6 => k i H6 hin (e12.trans (ExB.ex ((e4.trans e5).trans e6))) ⟨a, b, c + 1, ((e5.trans e6)) _ _ h4⟩)
/-- a draw, in an expression -/
theorem r_pour {t : Addr} {n : Nat} {ta : TA} {σ : L2.St} {H : Hp} {Q : VK} (h : EvA ta σ H [.ref t, .int (n : Int)]) (ht : Tub H t) (n0 : 0 < n) (n1 : n < 1000000) (k : ∀ (i : Nat) H2, i < n → ExB t H H2 → Tub H2 t → Q (.int (i : Int)) H2) : tCall sp_law_pour [] E0 ta σ H Q :=
  h H (Ex.refl H) _ fun H1 e1 => ⟨t, n, rfl, ht.ex e1, n0, n1, fun i H2 hi e2 h2 => k i H2 hi ((ExB.ex e1).trans e2) h2⟩
def sp_law_choice : Sp := fun vs H Q _ => ∃ (t p : Addr) (l : List Int), vs = [.ref t, .ref p] ∧ Tub H t ∧ p ≠ t ∧ H p = some (.lst (l.map V.int)) ∧ 0 < l.length ∧ l.length ≤ 100 ∧ ∀ x H2, x ∈ l → ExB t H H2 → Tub H2 t → Q (.int x) H2
abbrev N_law_choice : List Str := ["_law_tub_here", "_law_items"]
theorem sc_law_choice : FnScope N_law_choice ["_law_tub_here", "_law_items"] (defScope s_law_choice) := ⟨rfl, rfl, rfl, by decide +kernel, rfl, by decide +kernel, by decide +kernel⟩
theorem has_law_choice (T : Tx K mg) : Has P w K mg base "_law_choice" ["_law_tub_here", "_law_items"] 2 sp_law_choice := by
  have h_law_pour : Has P w K mg base _ _ 1 sp_law_pour := has_law_pour T
  obtain ⟨fd, F⟩ := T.fn_law_choice
  refine ⟨⟨fd, F.ok sc_law_choice (fun vs H Q E h => ?_) (fun cdv A outer s H vs Q E hr h => ?_), F.bindsN fun _ _ _ _ _ _ us hl => match us, hl with | [_, _], _ => rfl⟩, F.kp, T.g_law_choice⟩
  · obtain ⟨t, p, l, rfl, _⟩ := h; rfl
  · obtain ⟨t, p, l, rfl, ht, hne, hp, l0, l1, k⟩ := h
    refine ⟨_, PSs.nox (pss_one (ps_ret (pe_ix ix_list (pv 1) (pe_h h_law_pour (hr.mono (by decide)) pass0 (pa_cons (pv 0) (pa_cons (pe_callB call_len_seq (by rfl) T.len_ (by decide +kernel) (pa_cons (pv 1) pa_nil)) pa_nil))) (fun _ _ => rfl)))), ?_⟩
    refine ⟨.ref p, rfl, r_pour (n := l.length) (ea_cons (ev_var rfl) (ea_cons (ev_is (ev_lenL (ev_var rfl) (sq_of hp)) (by rw [List.length_map])) ea_nil)) ht l0 (by omega) (fun i H2 hi e2 h2 => ?_)⟩
    have hp2 := e2 _ _ hne hp
    refine ⟨p, l.map V.int, (i : Int), .int l[i], rfl, rfl, sq_of hp2, ?_, k _ H2 (List.getElem_mem hi) e2 h2⟩
    unfold atI
    rw [List.length_map, ixN_nat hi]
    show (l.map V.int)[i]? = _
    rw [List.getElem?_map, List.getElem?_eq_getElem hi]
    rfl
theorem r_choice {t : Addr} {l : List Int} {i : Nat} {ta : TA} {σ : L2.St} {H : Hp} {Q : VK} (hσ : σ[i]? = some (some (.ref t))) (h : EvA ta σ H (l.map V.int)) (ht : Tub H t) (l0 : 0 < l.length) (l1 : l.length ≤ 100) (k : ∀ x H2, x ∈ l → ExB t H H2 → Tub H2 t → Q (.int x) H2) :
    tCall sp_law_choice [] E0 (tCons (tVar i) (tCons (tLst ta) tNil)) σ H Q := ⟨_, hσ, h H (Ex.refl H) _ fun H1 e1 => ⟨sz_of (by rw [List.length_map]; omega), fun p hp => by
  have hne : p ≠ t := fun z => by
    obtain ⟨a, b, c, h'⟩ := ht.ex e1
    rw [z, h'] at hp; cases hp
  exact ⟨t, p, l, rfl, ht.ex (e1.trans (Ex.new hp)), hne, upd_same, l0, l1, fun x H2 hx e2 h2 => k x H2 hx ((ExB.ex (e1.trans (Ex.new hp))).trans e2) h2⟩⟩⟩
def sp_law_members : Sp := fun vs H Q _ => ∃ (t : Addr) (n : Nat), vs = [.ref t, .int (n : Int)] ∧ Tub H t ∧ 1 ≤ n ∧ n ≤ 4 ∧ ∀ p xs ms H2, H p = none → ExB t H H2 → Tub H2 t → H2 p = some (.lst xs) → Pd rWh H2 xs ms → ms.length ≤ 5 → (∀ x ∈ ms, x.length = n ∧ 0 < x.sum ∧ ∀ k ∈ x, k ≤ 3) → Q (.ref p) H2
abbrev N_law_members : List Str := ["_law_tub_here", "_law_letters", "_law_most", "_law_many_here", "_law_found", "_law_turn", "_law_product", "_law_place"]
theorem sc_law_members : FnScope N_law_members ["_law_tub_here", "_law_letters"] (defScope s_law_members) := ⟨rfl, rfl, rfl, by decide +kernel, rfl, by decide +kernel, by decide +kernel⟩
theorem has_law_members (T : Tx K mg) : Has P w K mg base "_law_members" ["_law_tub_here", "_law_letters"] 3 sp_law_members := by
  have h_law_pour : Has P w K mg base _ _ 1 sp_law_pour := has_law_pour T
  have h_law_choice : Has P w K mg base _ _ 2 sp_law_choice := has_law_choice T
  obtain ⟨fd, F⟩ := T.fn_law_members
  refine ⟨⟨fd, F.ok sc_law_members (fun vs H Q E h => ?_) (fun cdv A outer s H vs Q E hr h => ?_), F.bindsN fun _ _ _ _ _ _ us hl => match us, hl with | [_, _], _ => rfl⟩, F.kp, T.g_law_members⟩
  · obtain ⟨t, n, rfl, _⟩ := h; rfl
  · obtain ⟨t, n, rfl, ht, n1, n4, k⟩ := h
    refine ⟨_, PSs.nox (pss_cons (ps_asg (pe_tup (pa_cons (pe_h h_law_choice (hr.mono (by decide)) pass0 (pa_cons (pv 0) (pa_cons (pe_lst (pa_cons pe_int (pa_cons pe_int (pa_cons pe_int (pa_cons pe_int pa_nil))))) pa_nil))) (pa_cons (pe_h h_law_choice (hr.mono (by decide)) pass0 (pa_cons (pv 0) (pa_cons (pe_lst (pa_cons pe_int (pa_cons pe_int (pa_cons pe_int (pa_cons pe_int (pa_cons pe_int (pa_cons pe_int pa_nil))))))) pa_nil))) pa_nil))) (pg_tup rfl (pgs_cons (pg_name (i := 2) sc_law_members.nd rfl (Or.inr rfl)) (pgs_cons (pg_name (i := 3) sc_law_members.nd rfl (Or.inl rfl)) pgs_nil)))) (pss_cons (ps_set (i := 4) sc_law_members.nd rfl (Or.inl rfl) (pe_lst pa_nil)) (pss_cons (ps_for PassesOwn.never rfl (pi_range1 (by rfl) T.range_ (pa_cons (pv 3) pa_nil)) (pg_name (i := 5) sc_law_members.nd rfl (Or.inl rfl)) (pss_one (ps_expr (pe_bm PySem.F.plainAttrs_list PySem.F.slot_list_append PySem.F.type_list_append mt_append (pv 4) (pa_cons (pe_tupleOf (by rfl) T.tuple_ (pe_lc (own := [("_law_place", 7)]) rfl sc_law_members.nd (pi_range1 (by rfl) T.range_ (pa_cons (pv 1) pa_nil)) (blkOk_by (own := [("_law_place", 7)]) (N := N_law_members) (sc := defScope s_law_members) (by decide +kernel)) (by intro _ _ _ _ _; refine pg_nm (i := 7) ?_ ?_ ?_ ?_; exact sc_law_members.nd; exact rfl; all_goals first | exact .inl rfl | exact .inr rfl) (fun _ _ _ _ _ => pts_nil) (by intro _ _ _ _ _; exact (pe_h h_law_pour (hr.mono (by decide)) pass0 (pa_cons (pv 0) (pa_cons (pe_op op_add (pv 2) pe_int) pa_nil)))))) pa_nil))))) (pss_one (ps_ret (pe_lc (own := [("_law_product", 6)]) rfl sc_law_members.nd (pi_list (pv 4)) (blkOk_by (own := [("_law_product", 6)]) (N := N_law_members) (sc := defScope s_law_members) (by decide +kernel)) (by intro _ _ _ _ _; refine pg_nm (i := 6) ?_ ?_ ?_ ?_; exact sc_law_members.nd; exact rfl; all_goals first | exact .inl rfl | exact .inr rfl) (by intro _ _ _ _ _; exact pts_one (pt_cmpR op_gt (pe_callB (cr_sumTK (K := K) rfl rfl) (by rfl) T.sum_ (by decide +kernel) (pa_cons (pv 6) pa_nil)) pe_int (nomark _))) (by intro _ _ _ _ _; exact (pv 6)))))))), ?_⟩
    refine r_choice (t := t) (l := [1, 2, 2, 3]) (i := 0) (σ := [some (.ref t), some (.int (n : Int)), none, none, none, none, none, none]) (H := H) rfl (ea_cons ev_c (ea_cons ev_c (ea_cons ev_c (ea_cons ev_c ea_nil)))) ht (by decide) (by decide) (fun x H1 hx e1 h1 => ?_)
    refine r_choice (t := t) (l := [0, 1, 2, 3, 4, 5]) (i := 0) (σ := [some (.ref t), some (.int (n : Int)), none, none, none, none, none, none]) (H := H1) rfl (ea_cons ev_c (ea_cons ev_c (ea_cons ev_c (ea_cons ev_c (ea_cons ev_c (ea_cons ev_c ea_nil)))))) h1 (by decide) (by decide) (fun y H2 hy e2 h2 => ?_)
    obtain ⟨m, rfl, hm⟩ : ∃ m : Nat, x = (m : Int) ∧ m ≤ 3 := ⟨x.toNat, by simp at hx; omega, by simp at hx; omega⟩
    obtain ⟨c, rfl, hc⟩ : ∃ c : Nat, y = (c : Int) ∧ c ≤ 5 := ⟨y.toNat, by simp at hy; omega, by simp at hy; omega⟩
    refine ⟨sz_of (show 2 ≤ 100000 by decide), fun pp hpp => ?_⟩
    have ep := Ex.new (o := .tup [V.int (m : Int), V.int (c : Int)]) hpp
    refine g_tup2 (K := K) (st_of upd_same) ?_
    have e12 := (e1.trans e2).trans (ExB.ex ep)
    have h3 := h2.ex ep
    generalize (upd H2 pp (.tup [V.int (m : Int), V.int (c : Int)])) = H3 at e12 h3 ⊢
    refine q_asgF (R := rWh) (is := []) evf_nil (fun l us0 H4 hl e4 h4 pd4 => ?_)
    obtain rfl : us0 = [] := by have := pd4.1; simpa using this
    have hlt : l ≠ t := fun z => by
      obtain ⟨a, b, c, h'⟩ := h3
      rw [z, h'] at hl; cases hl
    have hlH : H l = none := by
      cases ho : H l with
      | none => rfl
      | some o => rw [e12 _ _ hlt ho] at hl; cases hl
    refine q_forR1 (n := (c : Int)) (ea_cons (ev_var rfl) ea_nil) (by omega) (fun j σ' H' => ∃ us ms x5, σ' = [some (.ref t), some (.int (n : Int)), some (.int (m : Int)), some (.int (c : Int)), some (.ref l), x5, none, none] ∧ ExB t H H' ∧ Tub H' t ∧ H' l = some (.lst us) ∧ Pd rWh H' us ms ∧ ms.length = j ∧ ∀ x ∈ ms, x.length = n ∧ ∀ k ∈ x, k ≤ 3)
      (fun H5 e5 => ⟨[], [], none, rfl, e12.trans (ExB.ex (e4.trans e5)), h3.ex (e4.trans e5), e5 _ _ h4, Pd.nil, rfl, by simp⟩) ?_ ?_
    · rintro j σ' H' hj ⟨us, ms, x5, rfl, eB, hT, hl', pd, hml, hms⟩
      refine ⟨_, rfl, Or.inl ⟨rfl, us, sq_of hl'⟩, ?_⟩
      refine ⟨_, rfl, (n : Int), rfl, by omega, by omega, fun Dl hD => lc_range (lo := 0) (n := (n : Int).toNat) (fun i H'' => ExB t H' H'' ∧ Tub H'' t ∧ ∃ wd : List Nat, H'' Dl = some (.lst (wV wd)) ∧ wd.length = i ∧ ∀ k ∈ wd, k ≤ 3) ?_ ?_ ?_⟩
      · exact ⟨ExB.ex (Ex.new hD), hT.ex (Ex.new hD), [], upd_same, rfl, by simp⟩
      · rintro i H'' hi ⟨eA, hTA, wd, hw, hwl, hwk⟩
        refine ⟨rfl, ?_⟩
        refine r_pour (n := m + 1) (ea_cons (ev_var rfl) (ea_cons (ev_is (ev_bin (ev_var rfl) ev_c) rfl) ea_nil)) hTA (by omega) (by omega) (fun z H5 hz e5 h5 => ?_)
        have hDt : Dl ≠ t := fun z => by
          obtain ⟨a, b, c, h'⟩ := hT
          rw [z, h'] at hD; cases hD
        refine ⟨wV wd, e5 _ _ hDt hw, sz_lt (by rw [wV_len]; omega), fun b o hb ho => ?_, ?_, wd ++ [z], ?_, by rw [List.length_append, hwl, List.length_singleton], fun k hk => ?_⟩
        · rw [upd_ne (fun c => by rw [c, hD] at ho; cases ho)]
          exact e5 _ _ hb (eA _ _ hb ho)
        · obtain ⟨a, b, c, h'⟩ := h5
          exact ⟨a, b, c, by rw [upd_ne (Ne.symm hDt)]; exact h'⟩
        · rw [upd_same]
          unfold wV
          rw [List.map_append]
          rfl
        · rcases List.mem_append.mp hk with h6 | h6
          · exact hwk k h6
          · rw [List.mem_singleton] at h6; omega
      · rintro H'' ⟨eA, hTA, wd, hw, hwl, hwk⟩
        refine .inl ⟨Dl, wV wd, rfl, sq_of hw, fun q hq => ?_⟩
        have hqt : q ≠ t := fun z => by
          obtain ⟨a, b, c, h'⟩ := hTA
          rw [z, h'] at hq; cases hq
        have hql : q ≠ l := fun z => by rw [z, eA _ _ hlt hl'] at hq; cases hq
        have eB2 : ExB t H' (upd H'' q (.tup (wV wd))) := eA.trans (ExB.ex (Ex.new hq))
        refine ⟨l, us, .ref q, rfl, rfl, eB2 _ _ hlt hl', sz_lt (by rw [pd.1]; omega), us ++ [.ref q], ms ++ [wd], _, rfl, fun b o hb ho => ?_, ?_, upd_same, ?_, by rw [List.length_append, hml, List.length_singleton], fun x hx => ?_⟩
        · rw [upd_ne (fun c => by rw [c, hlH] at ho; cases ho)]
          exact (eB.trans eB2) _ _ hb ho
        · obtain ⟨a, b, c, h'⟩ := hTA.ex (Ex.new hq)
          exact ⟨a, b, c, by rw [upd_ne (Ne.symm hlt)]; exact h'⟩
        · exact ((pd.keep rWh_stb (ExB.kp hT eB2)).snoc (R := rWh) (i := wd) ⟨q, rfl, upd_same⟩).keep rWh_stb (Kp.lst (eB2 _ _ hlt hl'))
        · rcases List.mem_append.mp hx with h6 | h6
          · exact hms x h6
          · rw [List.mem_singleton] at h6
            subst h6
            exact ⟨by rw [hwl]; omega, hwk⟩
    · rintro σ' H' ⟨us, ms, x5, rfl, eB, hT, hl', pd, hml, hms⟩
      refine s_retF (R := rWh) (is := (ms.filter fun x => decide (0 < x.sum)).map fun x => x) (evf_lc (f := fun x : List Nat => decide (0 < x.sum)) (u := fun x : List Nat => x) (ei_list (R := rWh) rWh_stb (evp_var rfl fun H5 e5 => ⟨l, us, rfl, sq_of (e5 _ _ hl'), pd.keep rWh_stb (Kp.ex e5)⟩)) rWh_stb (by omega) gm_name ?_) (fun p vs H5 hp e5 h5 pd5 => ?_)
      · rintro x y H5 e5 hx ⟨b, rfl, hb⟩
        exact ⟨rfl, rfl, et_is (et_test (ev_cmp (ev_sumT (ev_var rfl) (st_of hb)) ev_c)) (natlt 0 _), fun _ => evp_var rfl fun H6 e6 => ⟨b, rfl, e6 _ _ hb⟩⟩
      · rw [List.map_id'] at pd5
        have hpt : p ≠ t := fun z => by
          obtain ⟨a, b, c, h'⟩ := hT
          rw [z, h'] at hp; cases hp
        refine k p vs _ H5 ?_ (eB.trans (ExB.ex e5)) (hT.ex e5) h5 pd5 (Nat.le_trans (List.length_filter_le _ _) (by omega)) (fun x hx => ?_)
        · cases ho : H p with
          | none => rfl
          | some o => rw [eB _ _ hpt ho] at hp; cases hp
        · obtain ⟨h6, h7⟩ := List.mem_filter.mp hx
          exact ⟨(hms x h6).1, of_decide_eq_true h7, (hms x h6).2⟩
end
end PLW
end
section
set_option Elab.async false
set_option linter.all false
set_option maxRecDepth 100000
set_option maxHeartbeats 2000000
namespace PLW
open PySem PySem.Spec PyProof.Rows L2 Evl RZ
open PL PySem.W SlX
theorem wI_nat (m : List Nat) : (wI m).map Int.toNat = m := by
  unfold wI
  rw [List.map_map]
  have : (Int.toNat ∘ fun k : Nat => (k : Int)) = id := by funext k; exact Int.toNat_natCast k
  rw [this, List.map_id]
/-- by the code with B = 64 they stand in the words' order -/
theorem code_le : ∀ {x y : List Nat}, x.length = y.length → (∀ k ∈ x, k ≤ 60) → (∀ k ∈ y, k ≤ 60) → TS.code 64 (wI x) ≤ TS.code 64 (wI y) → leW x y
  | [], [], _, _, _, _ => List.le_refl _
  | [], _ :: _, h, _, _, _ => by simp at h
  | _ :: _, [], h, _, _, _ => by simp at h
  | a :: x, b :: y, h, hx, hy, hc => by
    have bd : ∀ {z : List Nat}, (∀ k ∈ z, k ≤ 60) → TS.Bd 64 (wI z) := fun {z} hz m hm => by
      obtain ⟨k, hk, rfl⟩ := List.mem_map.mp hm
      have := hz k hk
      omega
    have hl : (wI y).length = (wI x).length := by
      unfold wI
      rw [List.length_map, List.length_map]
      simpa using h.symm
    have tx := bd fun k hk => hx k (List.mem_cons_of_mem _ hk)
    have ty := bd fun k hk => hy k (List.mem_cons_of_mem _ hk)
    show ((a : Int) :: wI x) ≤ ((b : Int) :: wI y)
    rcases Nat.lt_trichotomy a b with c | c | c
    · exact List.cons_le_cons_iff.mpr (.inl (by omega))
    · subst c
      refine List.cons_le_cons_iff.mpr (.inr ⟨rfl, code_le (by simpa using h) (fun k hk => hx k (List.mem_cons_of_mem _ hk)) (fun k hk => hy k (List.mem_cons_of_mem _ hk)) ?_⟩)
      refine Int.not_lt.mp fun z => ?_
      have := (TS.code_same (d := (a : Int)) hl).mpr z
      exact absurd hc (Int.not_le.mpr this)
    · have := TS.code_lt (d := (b : Int)) (e := (a : Int)) hl ty tx (by omega)
      exact absurd hc (Int.not_le.mpr this)
theorem pd_refs {H : Hp} : ∀ {xs : List V} {ms : List (List Nat)}, Pd rWh H xs ms → ∃ ks : List (Addr × List Int), xs = ks.map (fun p => V.ref p.1) ∧ ks.map Prod.snd = ms.map wI ∧ ∀ p ∈ ks, ∃ m ∈ ms, p.2 = wI m ∧ H p.1 = some (.tup (wV m))
  | [], [], _ => ⟨[], rfl, rfl, by simp⟩
  | [], _ :: _, h => by have := h.1; simp at this
  | _ :: _, [], h => by have := h.1; simp at this
  | x :: xs, m :: ms, h => by
    obtain ⟨⟨a, ea, ha⟩, h2⟩ := h.uncons
    obtain ⟨ks, k1, k2, k3⟩ := pd_refs h2
    refine ⟨(a, wI m) :: ks, by rw [List.map_cons, ← k1, ea], by rw [List.map_cons, List.map_cons, k2], fun p hp => ?_⟩
    rcases List.mem_cons.mp hp with e | e
    · subst e; exact ⟨m, by simp, rfl, ha⟩
    · obtain ⟨m', h3, h4⟩ := k3 p e
      exact ⟨m', List.mem_cons_of_mem _ h3, h4⟩
theorem refs_pd {H : Hp} : ∀ {ks : List (Addr × List Int)}, (∀ p ∈ ks, ∃ m, p.2 = wI m ∧ H p.1 = some (.tup (wV m))) → Pd rWh H (ks.map fun p => V.ref p.1) (ks.map fun p => p.2.map Int.toNat)
  | [], _ => Pd.nil
  | p :: ks, h => by
    obtain ⟨m, h1, h2⟩ := h p (by simp)
    have := Pd.append (Pd.snoc (R := rWh) (H := H) (v := V.ref p.1) (i := p.2.map Int.toNat) Pd.nil ⟨p.1, rfl, by rw [h1, wI_nat]; exact h2⟩) (refs_pd (ks := ks) fun q hq => h q (List.mem_cons_of_mem _ hq))
    exact this
section
variable {K : PySem.W.Frag} {P : Program} {w : World} {mg : Str → Option Value} {σ : L2.St} {H H' : Hp} {ta tb tc te tl td ty : TE} {D : Ends} {tz tu : TS} {i j n : Nat} {R R' R1 R2 : Rl} {t : TA} {g : TG}
theorem evg_sortedSet {a : Addr} {xs : List V} {ms : List (List Nat)} (h : Ev te σ H (.ref a)) (hs : SqL K H a xs) (pd : Pd rWh H xs ms) (hx : ∀ x ∈ ms, x.length = n ∧ ∀ k ∈ x, k ≤ 60) (n1 : 1 ≤ n) (hz : ms.length ≤ 60) :
    EvG (tCB (rSortedT K P w) (tCons (tCB (rSetOfT K P w) (tCons te tNil)) tNil)) σ H fun L => L.Nodup ∧ L.Pairwise leW ∧ ∀ x, x ∈ L ↔ x ∈ ms := fun H1 e Q q =>
  h H1 e _ fun H2 e2 => by
    have e12 := e.trans e2
    obtain ⟨ks, k1, k2, k3⟩ := pd_refs (pd.keep rWh_stb (Kp.ex e12))
    refine ⟨a, ks, rfl, by rw [← k1]; exact ex_l e12 hs, fun p hp => ?_, ?_, fun b L hb h1 h2 => ?_⟩
    · obtain ⟨m, _, h3, h4⟩ := k3 p hp
      rw [h3, show (wI m).map V.int = wV m from (wV_ints m).symm]
      exact st_of h4
    · have := congrArg List.length k2
      rw [List.length_map, List.length_map] at this
      omega
    · have e3 : Ex H2 (upd H2 b (SetTO P w b L)) := Ex.new hb
      have hL : ∀ p ∈ L, ∃ m ∈ ms, p.2 = wI m ∧ H2 p.1 = some (.tup (wV m)) := fun p hp => k3 p (h1 p hp)
      refine ⟨b, L, n, 64, rfl, upd_same, fun p hp => ?_, n1, fun p hp => ?_, fun L' p hp hnd _ hasc hpn => ?_⟩
      · obtain ⟨m, _, h3, h4⟩ := hL p hp
        rw [h3, show (wI m).map V.int = wV m from (wV_ints m).symm]
        exact st_of (e3 _ _ h4)
      · obtain ⟨m, h5, h3, h4⟩ := hL p hp
        rw [h3]
        refine ⟨by unfold wI; rw [List.length_map]; exact (hx m h5).1, fun z hz => ?_⟩
        obtain ⟨k, hk, rfl⟩ := List.mem_map.mp hz
        have := (hx m h5).2 k hk
        omega
      · have hpb : p ≠ b := fun z => by rw [z, upd_same] at hpn; cases hpn
        have hp2 : H2 p = none := by rw [upd_ne hpb] at hpn; exact hpn
        have hL' : ∀ r ∈ L', ∃ m ∈ ms, r.2 = wI m ∧ H2 r.1 = some (.tup (wV m)) := fun r hr => hL r (hp.mem_iff.mp hr)
        refine q p _ (L'.map fun r => r.2.map Int.toNat) _ ⟨?_, ?_, fun x => ⟨fun hx => ?_, fun hx => ?_⟩⟩ (fresh_back e2 hp2) ((e2.trans e3).trans (Ex.new hpn)) upd_same ?_
        · have hnd' : (L'.map fun q => q.2).Nodup := hnd
          have e5 : L'.map (fun q => q.2) = (L'.map fun r => r.2.map Int.toNat).map wI := by
            rw [List.map_map]
            refine List.map_congr_left fun r hr => ?_
            obtain ⟨m, _, h3, _⟩ := hL' r hr
            show r.2 = wI (r.2.map Int.toNat)
            rw [h3, wI_nat]
          rw [e5] at hnd'
          exact (List.pairwise_map.mp hnd').imp fun {a b} h z => h (by rw [z])
        · refine List.pairwise_map.mpr (hasc.imp_of_mem fun {r1 r2} m1 m2 hle => ?_)
          obtain ⟨x1, g1, f1, _⟩ := hL' r1 m1
          obtain ⟨x2, g2, f2, _⟩ := hL' r2 m2
          rw [f1, f2] at hle
          rw [f1, f2, wI_nat, wI_nat]
          exact code_le (by rw [(hx x1 g1).1, (hx x2 g2).1]) (hx x1 g1).2 (hx x2 g2).2 hle
        · obtain ⟨r, hr, rfl⟩ := List.mem_map.mp hx
          obtain ⟨m, h5, h3, _⟩ := hL' r hr
          rw [h3, wI_nat]
          exact h5
        · have h6 : wI x ∈ ks.map Prod.snd := by rw [k2]; exact List.mem_map.mpr ⟨x, hx, rfl⟩
          obtain ⟨r0, hr0, er0⟩ := List.mem_map.mp h6
          obtain ⟨r, hr, er⟩ := List.mem_map.mp (h2 r0 hr0)
          refine List.mem_map.mpr ⟨r, hp.mem_iff.mpr hr, ?_⟩
          have er' : r.2 = wI x := er.trans er0
          rw [er', wI_nat]
        · refine (refs_pd (H := H2) (ks := L') fun r hr => ?_).keep rWh_stb (Kp.ex (e3.trans (Ex.new hpn)))
          obtain ⟨m, _, h3, h4⟩ := hL' r hr
          exact ⟨m, h3, h4⟩
theorem evf_cat {ι : Type} {S : ι → Rl} {is js : List ι} (hs : ∀ i, Stb (S i)) (h1 : EvF ta σ H S is) (h2 : EvF tb σ H S js) (hz : is.length + js.length ≤ 100000) : EvF (tOp rCat ta tb) σ H S (is ++ js) := fun H1 e Q q =>
  h1 H1 e _ fun p xs H2 hp e2 hx pdx => h2 H2 (e.trans e2) _ fun r ys H3 hr e3 hy pdy => ⟨p, r, xs, ys, rfl, rfl, e3 _ _ hx, hy, sz_of (by rw [pdx.1, pdy.1]; exact hz), fun u hu => q u (xs ++ ys) _ (fresh_back (e2.trans e3) hu) ((e2.trans e3).trans (Ex.new hu)) upd_same (((pdx.keep hs (Kp.ex e3)).append pdy).keep hs (Kp.ex (Ex.new hu)))⟩
theorem ev_maxL {ns : List Int} {g : Int} (h : EvP te σ H (rL K rInt ns)) (h1 : g ∈ ns) (h2 : ∀ y ∈ ns, y ≤ g) : Ev (tCB (rMax K) (tCons te tNil)) σ H (.int g) := ev_cbL h fun v H1 e ⟨a, vs, ev, h3, pd⟩ Q q => by
  rw [ev]
  refine ⟨a, ns, rfl, by rw [← pd_val (f := V.int) pd]; exact h3, List.length_pos_of_mem h1, fun m hm hx => ?_⟩
  have a1 := hx g h1
  have a2 := h2 m hm
  rw [show m = g by omega]
  exact q
end
/-- the law's way: up from g to the first d that is met, then down -/
def From (m : Nat → Bool) (g r : Nat) : Prop := (r = 61 ∧ ∀ d, g ≤ d → d ≤ 60 → m d = false) ∨ (1 ≤ r ∧ ∃ f, g ≤ f ∧ f ≤ 60 ∧ m f = true ∧ r ≤ f ∧ (∀ d, r ≤ d → d ≤ f → m d = true) ∧ (r = 1 ∨ m (r - 1) = false))
section
variable {P : Program} {w : World} {K : PySem.W.Frag} {mg : Str → Option Value} {base : Heap}
def sp_law_least (K : PySem.W.Frag) : Sp := spR fun vs H R => ∃ (ms : List (List Nat)) (n : Nat) (a : Addr) (xs : List V), vs = [.ref a] ∧ SqL K H a xs ∧ Pd rWh H xs ms ∧ (∀ x ∈ ms, x.length = n ∧ ∀ k ∈ x, k ≤ 60) ∧ 1 ≤ n ∧ n ≤ 8 ∧ ms.length ≤ 60 ∧ R = fun H v => ∃ fs, Least ms fs ∧ rL K rWh fs H v
abbrev N_law_least : List Str := ["_law_products", "_law_found", "_law_one", "_law_other"]
theorem sc_law_least : FnScope N_law_least ["_law_products"] (defScope s_law_least) := ⟨rfl, rfl, rfl, by decide +kernel, rfl, by decide +kernel, by decide +kernel⟩
theorem has_law_least (T : Tx K mg) : Has P w K mg base "_law_least" ["_law_products"] 2 (sp_law_least K) := by
  have h_law_divides : Has P w K mg base _ _ 1 (sp_law_divides K) := has_law_divides T
  obtain ⟨fd, F⟩ := T.fn_law_least
  refine ⟨⟨fd, F.ok sc_law_least (fun vs H Q E h => ?_) (fun cdv A outer s H vs Q E hr h => ?_), F.bindsN fun _ _ _ _ _ _ us hl => match us, hl with | [_], _ => rfl⟩, F.kp, T.g_law_least⟩
  · obtain ⟨R, ⟨ms, n, a, xs, rfl, _⟩, _⟩ := h; rfl
  · obtain ⟨R, ⟨ms, n, a, xs, rfl, ha, pd, hx, n1, n8, hz, rfl⟩, k⟩ := h
    refine ⟨_, PSs.nox (pss_cons (ps_set (i := 1) sc_law_least.nd rfl (Or.inl rfl) (pe_lst pa_nil)) (pss_cons (ps_for PassesOwn.never rfl (pi_list (pe_callB (cr_sortedT rfl) (by rfl) T.sorted_ (by decide +kernel) (pa_cons (pe_callTy (cr_setOfT rfl hr.units) (by rfl) T.set_ (by decide +kernel) (pa_cons (pv 0) pa_nil)) pa_nil))) (pg_name (i := 2) sc_law_least.nd rfl (Or.inr rfl)) (pss_one (ps_if (pt_cmpR (op_eqD hr.units) (pe_lc (own := [("_law_other", 3)]) rfl sc_law_least.nd (pi_list (pv 0)) (blkOk_by (own := [("_law_other", 3)]) (N := N_law_least) (sc := defScope s_law_least) (by decide +kernel)) (by intro _ _ _ _ _; refine pg_nm (i := 3) ?_ ?_ ?_ ?_; exact sc_law_least.nd; exact rfl; all_goals first | exact .inl rfl | exact .inr rfl) (by intro _ _ _ _ _; exact pts_one (PW.pt (pw_and (pt_cmpR (op_neDK (K := K) rfl hr.units) (pv 3) (pv 2) (nomark _)) (pw_and1 (pt_val (pe_h h_law_divides (hr.mono (by decide)) pass0 (pa_cons (pv 3) (pa_cons (pv 2) pa_nil)))))))) (by intro _ _ _ _ _; exact pe_int)) (pe_lst pa_nil) (nomark _)) (pss_one (ps_expr (pe_bm PySem.F.plainAttrs_list PySem.F.slot_list_append PySem.F.type_list_append mt_append (pv 1) (pa_cons (pv 2) pa_nil)))) pss_nil))) (pss_one (ps_ret (pv 1))))), ?_⟩
    refine q_asgF (R := rWh) (is := []) evf_nil (fun l us0 H1 hl e1 h1 pd1 => ?_)
    obtain rfl : us0 = [] := by have := pd1.1; simpa using this
    refine q_forG (evg_sortedSet (n := n) (ev_var rfl) (ex_l e1 ha) (pd.keep rWh_stb (Kp.ex e1)) hx n1 hz) (fun p ys L H2 ⟨hnd, hasc, hml⟩ hp e2 h2 pd2 => ?_)
    have hne : p ≠ l := fun z => by rw [z, h1] at hp; cases hp
    have hll : L.length ≤ 60 := Nat.le_trans (List.Nodup.length_le_of_subset hnd fun x hx => (hml x).mp hx) hz
    refine ⟨fun j σ' H' => ∃ fs us x2, σ' = [some (.ref a), some (.ref l), x2, none] ∧ Ex H H' ∧ H' p = some (.lst ys) ∧ Pd rWh H' ys L ∧ H' l = some (.lst us) ∧ Pd rWh H' us fs ∧ fs = (L.take j).filter (fun x => (ms.filter fun o => !decide (o = x) && dv o x).isEmpty),
      ⟨[], [], none, rfl, e1.trans e2, h2, pd2, e2 _ _ h1, Pd.nil, rfl⟩, fun j σ' H' _ ⟨fs, us, x2, _, _, h, _⟩ => sq_of h, ?_, ?_⟩
    · rintro j u σ' H' hju ⟨fs, us, x2, rfl, e, hp', pdy, hl', pdf, hfs⟩
      obtain ⟨x, hjx, b, rfl, hb⟩ := pdy.get hju
      have hxm := (hml x).mp (List.mem_of_getElem? hjx)
      have htk : L.take (j + 1) = L.take j ++ [x] := by rw [List.take_succ, hjx]; rfl
      have hjl : j < L.length := (List.getElem?_eq_some_iff.mp hjx).1
      have hfl : fs.length ≤ 60 := by rw [hfs]; exact Nat.le_trans (List.length_filter_le _ _) (by rw [List.length_take]; omega)
      refine s_when (b := (ms.filter fun o => !decide (o = x) && dv o x).isEmpty) (et_test (ev_isNil (evp_lc1 (f := fun o => !decide (o = x) && dv o x) (ei_list (R := rWh) rWh_stb (evp_var rfl fun H3 e3 => ⟨a, xs, rfl, ex_l (e.trans e3) ha, pd.keep rWh_stb (Kp.ex (e.trans e3))⟩)) (by omega) gm_name ?_))) (fun z H3 e3 => ?_) (fun z H3 e3 => ?_)
      · rintro o y H3 e3 ho ⟨c, rfl, hc⟩
        refine ⟨rfl, rfl, et_and (et_test (ev_is (ev_neD (d := encW o) (e := encW x) (evp_var rfl fun H4 e4 => dp_W (rWh_W ⟨c, rfl, e4 _ _ hc⟩)) (evp_var rfl fun H4 e4 => dp_W (rWh_W ⟨b, rfl, (e3.trans e4) _ _ hb⟩)) (sh_W o) (sh_W x)) (by rw [eqv_W]))) (fun _ => et_test (evp_call (ea_cons (ev_var rfl) (ea_cons (ev_var rfl) ea_nil)) (SpP.of fun H4 e4 => ⟨o, x, c, b, rfl, st_of (e4 _ _ hc), st_of ((e3.trans e4) _ _ hb), by rw [(hx o ho).1, (hx x hxm).1], by rw [(hx o ho).1]; exact n8, rfl⟩)).ev), ev_c⟩
      · refine s_app (l := l) (e3 _ _ hl') (ev_var rfl) (ev_var rfl) (by rw [pdf.1]; omega) (fun H4 e4 => ⟨fs ++ [x], us ++ [.ref b], _, rfl, Ex.mut ((e.trans e3).trans e4) hl, ?_, ?_, upd_same, ?_, ?_⟩)
        · rw [upd_ne hne]; exact (e3.trans e4) _ _ hp'
        · exact (pdy.keep rWh_stb (Kp.ex (e3.trans e4))).keep rWh_stb (Kp.lst ((e3.trans e4) _ _ hl'))
        · exact pd_app (e3 _ _ hl') e4 (pdf.keep rWh_stb (Kp.ex e3)) rWh_stb ⟨b, rfl, (e3.trans e4) _ _ hb⟩
        · rw [htk, List.filter_append, hfs, List.filter_cons, if_pos z]
          rfl
      · refine ⟨fs, us, _, rfl, e.trans e3, e3 _ _ hp', pdy.keep rWh_stb (Kp.ex e3), e3 _ _ hl', pdf.keep rWh_stb (Kp.ex e3), ?_⟩
        rw [htk, List.filter_append, hfs, List.filter_cons, if_neg (by rw [z]; decide)]
        simp
    · rintro σ' H' ⟨fs, us, x2, rfl, e, hp', pdy, hl', pdf, hfs⟩
      rw [pdy.1, List.take_length] at hfs
      refine s_ret (v := .ref l) (ev_var rfl) (fun H3 e3 => k _ H3 (e.trans e3) ⟨fs, ⟨by rw [hfs]; exact hasc.filter _, by rw [hfs]; exact hnd.filter _, fun x => ?_⟩, l, us, rfl, sq_of (e3 _ _ hl'), pdf.keep rWh_stb (Kp.ex e3)⟩)
      rw [hfs, List.mem_filter, hml]
      refine and_congr_right fun hxm => ?_
      rw [List.isEmpty_iff, List.filter_eq_nil_iff]
      constructor
      · intro h y hy hd
        have := h y hy
        rw [hd, Bool.and_true] at this
        by_cases c : y = x
        · exact c
        · rw [decide_eq_false c] at this; exact absurd rfl this
      · intro h y hy hc
        rw [Bool.and_eq_true] at hc
        have := h y hy hc.2
        rw [decide_eq_true this] at hc
        cases hc.1
def sp_law_is_met : Sp := spR fun vs H R => ∃ (n d : Nat) (ls : List (List Nat)) (N : Nm) (c : V), vs = [.int (n : Int), c, .int (d : Int)] ∧ rD N H c ∧ Num n ls N ∧ nd N ∧ N.length ≤ 1000 ∧ 1 ≤ n ∧ n ≤ 4 ∧ 1 ≤ d ∧ d ≤ 99 ∧ R = rBl (mt n ls d)
abbrev N_law_is_met : List Str := ["_law_letters", "_law_counts", "_law_degree", "_law_here", "_law_above"]
theorem sc_law_is_met : FnScope N_law_is_met ["_law_letters", "_law_counts", "_law_degree"] (defScope s_law_is_met) := ⟨rfl, rfl, rfl, by decide +kernel, rfl, by decide +kernel, by decide +kernel⟩
theorem has_law_is_met (T : Tx K mg) : Has P w K mg base "_law_is_met" ["_law_letters", "_law_counts", "_law_degree"] 5 sp_law_is_met := by
  have h_law_left : Has P w K mg base _ _ 3 sp_law_left := has_law_left T
  have h_law_bound : Has P w K mg base _ _ 4 sp_law_bound := has_law_bound T
  obtain ⟨fd, F⟩ := T.fn_law_is_met
  refine ⟨⟨fd, F.ok sc_law_is_met (fun vs H Q E h => ?_) (fun cdv A outer s H vs Q E hr h => ?_), F.bindsN fun _ _ _ _ _ _ us hl => match us, hl with | [_, _, _], _ => rfl⟩, F.kp, T.g_law_is_met⟩
  · obtain ⟨R, ⟨n, d, ls, N, c, rfl, _⟩, _⟩ := h; rfl
  · obtain ⟨R, ⟨n, d, ls, N, c, rfl, hc, hN, hnd, hl, n1, n4, d1, d9, rfl⟩, k⟩ := h
    refine ⟨_, PSs.nox (pss_cons (ps_par (i := 3) (j := 4) (by rfl) sc_law_is_met.nd rfl rfl (by decide) rfl rfl (pa_cons (pe_h h_law_left (hr.mono (by decide)) pass0 (pa_cons (pv 0) (pa_cons (pv 1) (pa_cons (pv 2) pa_nil)))) (pa_cons (pe_h h_law_left (hr.mono (by decide)) pass0 (pa_cons (pv 0) (pa_cons (pv 1) (pa_cons (pe_op op_add (pv 2) pe_int) pa_nil)))) pa_nil)) (by rfl)) (pss_one (ps_ret (pe_cmpR op_eq (pv 4) (pe_h h_law_bound (hr.mono (by decide)) pass0 (pa_cons (pv 3) (pa_cons (pv 2) pa_nil))) (nomark _))))), ?_⟩
    have h1 := left_nn n ls d
    have h2 := nn_small n1 n4 (show d ≤ 100 by omega)
    refine q_par (a := .int ((left n ls d : Nat) : Int)) (b := .int ((left n ls (d + 1) : Nat) : Int)) (ea_cons (evp_call (ea_cons (ev_var rfl) (ea_cons (ev_var rfl) (ea_cons (ev_var rfl) ea_nil))) (SpP.of fun H1 e1 => ⟨n, d, N, c, rfl, n1, n4, by omega, rD_ex e1 hc, hnd, hl, by rw [hN d]; rfl⟩)).ev (ea_cons (evp_call (ea_cons (ev_var rfl) (ea_cons (ev_var rfl) (ea_cons (ev_bin (ev_var rfl) ev_c) ea_nil))) (SpP.of fun H1 e1 => ⟨n, d + 1, N, c, rfl, n1, n4, by omega, rD_ex e1 hc, hnd, hl, by rw [hN (d + 1)]; rfl⟩)).ev ea_nil)) (fun H1 e1 => ?_)
    exact s_ret (v := .bl (mt n ls d)) (ev_is (ev_eqI (i := ((left n ls (d + 1) : Nat) : Int)) (j := ((bnd d (left n ls d) : Nat) : Int)) (ev_var rfl) (evp_call (ea_cons (ev_var rfl) (ea_cons (ev_var rfl) ea_nil)) (SpP.of fun H2 e2 => ⟨left n ls d, d, rfl, by omega, d1, by omega, rfl⟩)).ev) (congrArg V.bl (nateq _ _))) (fun H2 e2 => k _ H2 (e1.trans e2) rfl)
def sp_law_from (K : PySem.W.Frag) : Sp := spR fun vs H R => ∃ (n : Nat) (ls : List (List Nat)) (v : V), vs = [.int (n : Int), v] ∧ rL K rWh ls H v ∧ (∀ x ∈ ls, x.length = n ∧ x.sum ≤ 60) ∧ ls.length ≤ 9 ∧ 1 ≤ n ∧ n ≤ 4 ∧ R = fun _ v => ∃ g r : Nat, v = .int (r : Int) ∧ 1 ≤ g ∧ g ≤ 60 ∧ (∀ x ∈ ls, x.sum ≤ g) ∧ From (mt n ls) g r
abbrev N_law_from : List Str := ["_law_letters", "_law_members_here", "_law_counts", "_law_found", "_law_member"]
theorem sc_law_from : FnScope N_law_from ["_law_letters", "_law_members_here"] (defScope s_law_from) := ⟨rfl, rfl, rfl, by decide +kernel, rfl, by decide +kernel, by decide +kernel⟩
theorem has_law_from (T : Tx K mg) : Has P w K mg base "_law_from" ["_law_letters", "_law_members_here"] 6 (sp_law_from K) := by
  have h_law_numerator : Has P w K mg base _ _ 1 (sp_law_numerator K) := has_law_numerator T
  have h_law_is_met : Has P w K mg base _ _ 5 sp_law_is_met := has_law_is_met T
  obtain ⟨fd, F⟩ := T.fn_law_from
  refine ⟨⟨fd, F.ok sc_law_from (fun vs H Q E h => ?_) (fun cdv A outer s H vs Q E hr h => ?_), F.bindsN fun _ _ _ _ _ _ us hl => match us, hl with | [_, _], _ => rfl⟩, F.kp, T.g_law_from⟩
  · obtain ⟨R, ⟨n, ls, v, rfl, _⟩, _⟩ := h; rfl
  · obtain ⟨R, ⟨n, ls, v, rfl, ⟨a, vs, rfl, ha, pd⟩, hx, hl, n1, n4, rfl⟩, k⟩ := h
    refine ⟨_, PSs.nox (pss_cons (ps_set (i := 2) sc_law_from.nd rfl (Or.inl rfl) (pe_fz (pe_h h_law_numerator (hr.mono (by decide)) pass0 (pa_cons (pv 0) (pa_cons (pv 1) pa_nil))))) (pss_cons (ps_set (i := 3) sc_law_from.nd rfl (Or.inl rfl) (pe_callB (cr_max rfl) (by rfl) T.max_ (by decide +kernel) (pa_cons (pe_op op_cat (pe_lst (pa_cons pe_int pa_nil)) (pe_lc (own := [("_law_member", 4)]) rfl sc_law_from.nd (pi_list (pv 1)) (blkOk_by (own := [("_law_member", 4)]) (N := N_law_from) (sc := defScope s_law_from) (by decide +kernel)) (by intro _ _ _ _ _; refine pg_nm (i := 4) ?_ ?_ ?_ ?_; exact sc_law_from.nd; exact rfl; all_goals first | exact .inl rfl | exact .inr rfl) (fun _ _ _ _ _ => pts_nil) (by intro _ _ _ _ _; exact (pe_callB (cr_sumTK (K := K) rfl rfl) (by rfl) T.sum_ (by decide +kernel) (pa_cons (pv 4) pa_nil))))) pa_nil))) (pss_cons (ps_while PassesOwn.never (PW.pt (pw_and (pt_cmpR op_lt (pv 3) pe_int (nomark _)) (pw_and1 (pt_not (pt_val (pe_h h_law_is_met (hr.mono (by decide)) pass0 (pa_cons (pv 0) (pa_cons (pv 2) (pa_cons (pv 3) pa_nil))))))))) (pss_one (ps_set (i := 3) sc_law_from.nd rfl (Or.inl rfl) (pe_op op_add (pv 3) pe_int)))) (pss_cons (ps_while PassesOwn.never (PW.pt (pw_and (pt_chain op_lt op_lt pe_int (pv 3) pe_int) (pw_and1 (pt_val (pe_h h_law_is_met (hr.mono (by decide)) pass0 (pa_cons (pv 0) (pa_cons (pv 2) (pa_cons (pe_op op_sub (pv 3) pe_int) pa_nil)))))))) (pss_one (ps_set (i := 3) sc_law_from.nd rfl (Or.inl rfl) (pe_op op_sub (pv 3) pe_int)))) (pss_one (ps_ret (pv 3))))))), ?_⟩
    refine q_asgP (Rr := fun H v => ∃ N, (Num n ls N ∧ nd N ∧ N.length ≤ 1000) ∧ rD N H v) (evp_fz (evd_call (ea_cons (ev_var rfl) (ea_cons (ev_var rfl) ea_nil)) (fun H1 e1 => ⟨ls, n, .ref a, rfl, ⟨a, vs, rfl, ex_l e1 ha, (pd.keep rWh_stb (Kp.ex e1)).impW⟩, fun x h => (hx x h).1, n1, n4, hl, rfl⟩))) (fun c H1 e1 ⟨N, ⟨g1, g2, g3⟩, hc⟩ => ?_)
    have hm : ∀ {σ : L2.St} {H2 : Hp} {d : Nat} {t : TE}, Ex H1 H2 → 1 ≤ d → d ≤ 99 → σ[0]? = some (some (.int (n : Int))) → σ[2]? = some (some c) → Ev t σ H2 (.int (d : Int)) → Ev (tCall sp_law_is_met [] E0 (tCons (tVar 0) (tCons (tVar 2) (tCons t tNil)))) σ H2 (.bl (mt n ls d)) := fun {σ H2 d t} e2 h1 h2 s0 s1 ht => (evp_call (ea_cons (ev_var s0) (ea_cons (ev_var s1) (ea_cons ht ea_nil))) (SpP.of fun H3 e3 => ⟨n, d, ls, N, c, rfl, rD_ex (e2.trans e3) hc, g1, g2, g3, n1, n4, h1, h2, rfl⟩)).ev
    obtain ⟨gi, gm, gx⟩ := maxI_at (ns := [1] ++ ls.map fun x => ((x.sum : Nat) : Int)) (by simp)
    obtain ⟨g, rfl⟩ : ∃ g : Nat, gi = (g : Int) := ⟨gi.toNat, by have := gx 1 (by simp); omega⟩
    have hg1 : 1 ≤ g := by have := gx 1 (by simp); omega
    have hgx : ∀ x ∈ ls, x.sum ≤ g := fun x hxm => by
      have := gx ((x.sum : Nat) : Int) (List.mem_append_right _ (List.mem_map.mpr ⟨x, hxm, rfl⟩))
      omega
    have hg60 : g ≤ 60 := by
      rcases List.mem_append.mp gm with h | h
      · rw [List.mem_singleton] at h; omega
      · obtain ⟨x, hxm, e⟩ := List.mem_map.mp h
        have := (hx x hxm).2
        omega
    refine q_asg (v := .int (g : Int)) (ev_maxL (ns := [1] ++ ls.map fun x => ((x.sum : Nat) : Int)) (EvF.evp (evf_cat rInt_stb (evf_one (EvP.of ev_c) rInt_stb) (evf_lc0 (R := rWh) (u := fun x : List Nat => ((x.sum : Nat) : Int)) (ei_list rWh_stb (evp_var rfl fun H2 e2 => ⟨a, vs, rfl, ex_l (e1.trans e2) ha, pd.keep rWh_stb (Kp.ex (e1.trans e2))⟩)) rInt_stb (by omega) gm_name (fun x y H2 e2 hxm ⟨b, eb, hb⟩ => ⟨rfl, rfl, EvP.of (ev_sumT (ev_var (by rw [eb]; rfl)) (st_of hb))⟩)) (by simp; omega))) gm gx) (fun H2 e2 => ?_)
    refine q_while (fun m σ' H' => ∃ f : Nat, σ' = [some (.int (n : Int)), some (.ref a), some c, some (.int (f : Int)), none] ∧ Ex H1 H' ∧ g ≤ f ∧ f ≤ 61 ∧ (∀ d, g ≤ d → d < f → mt n ls d = false) ∧ m + f = 61) (61 - g) ⟨g, rfl, e2, Nat.le_refl _, by omega, fun d h1 h2 => by omega, by omega⟩ ?_
    rintro m σ' H' ⟨f, rfl, e3, hgf, hf61, hall, hmf⟩
    refine ⟨decide (f < 61) && !mt n ls f, et_and (et_is (et_test (ev_cmp (ev_var rfl) ev_c)) (natlt f 61)) (fun hz => et_not (et_test (hm (d := f) e3 (by omega) (by omega) rfl rfl (ev_var rfl)))), fun z H4 e4 => ?_, fun z H4 e4 => ?_⟩
    · rw [Bool.and_eq_true] at z
      have z1 := of_decide_eq_true z.1
      have z2 : mt n ls f = false := by have := z.2; cases h : mt n ls f <;> rw [h] at this <;> simp_all
      refine ⟨fun σ2 H2 => σ2 = [some (.int (n : Int)), some (.ref a), some c, some (.int ((f + 1 : Nat) : Int)), none] ∧ Ex H1 H2, fun σ2 H2 ⟨a1, a2⟩ => ⟨m - 1, by omega, f + 1, a1, a2, by omega, by omega, fun d h1 h2 => ?_, by omega⟩, ?_⟩
      · by_cases c : d = f
        · rw [c]; exact z2
        · exact hall d h1 (by omega)
      · exact s_asg (v := .int ((f + 1 : Nat) : Int)) (ev_is (ev_bin (ev_var rfl) ev_c) (by congr 1)) (fun H5 e5 => ⟨rfl, (e3.trans e4).trans e5⟩)
    · have hcase : f = 61 ∨ mt n ls f = true := by
        by_cases c : f < 61
        · right
          rw [decide_eq_true c, Bool.true_and] at z
          cases h : mt n ls f
          · rw [h] at z; cases z
          · rfl
        · left; omega
      refine q_while (fun m σ' H' => ∃ r : Nat, σ' = [some (.int (n : Int)), some (.ref a), some c, some (.int (r : Int)), none] ∧ Ex H1 H' ∧ 1 ≤ r ∧ r ≤ f ∧ (f = 61 → r = 61) ∧ (f ≤ 60 → ∀ d, r ≤ d → d ≤ f → mt n ls d = true) ∧ m = r) f ⟨f, rfl, e3.trans e4, by omega, Nat.le_refl _, fun h => h, fun h d h1 h2 => by
        obtain rfl : d = f := by omega
        exact hcase.resolve_left (by omega), rfl⟩ ?_
      rintro m' σ' H' ⟨r, rfl, e5, r1, rf, r61, rall, rfl⟩
      refine ⟨(decide (1 < m') && decide (m' < 61)) && mt n ls (m' - 1), et_and (et_is (et_test (ev_chain ev_c (ev_var rfl) ev_c)) (by rw [show decide ((1 : Int) < (m' : Int)) = decide (1 < m') from natlt 1 m', show decide ((m' : Int) < 61) = decide (m' < 61) from natlt m' 61])) (fun hz => et_test (hm (d := m' - 1) e5 (by rw [Bool.and_eq_true] at hz; have := of_decide_eq_true hz.1; omega) (by omega) rfl rfl (ev_is (ev_bin (ev_var rfl) ev_c) (by congr 1; omega)))), fun z H6 e6 => ?_, fun z H6 e6 => ?_⟩
      · rw [Bool.and_eq_true, Bool.and_eq_true] at z
        have z1 := of_decide_eq_true z.1.1
        have z2 := of_decide_eq_true z.1.2
        have hf60 : f ≤ 60 := by
          by_cases c : f = 61
          · have := r61 c; omega
          · omega
        refine ⟨fun σ2 H2 => σ2 = [some (.int (n : Int)), some (.ref a), some c, some (.int ((m' - 1 : Nat) : Int)), none] ∧ Ex H1 H2, fun σ2 H2 ⟨a1, a2⟩ => ⟨m' - 1, by omega, m' - 1, a1, a2, by omega, by omega, fun h => by omega, fun h d h1 h2 => ?_, rfl⟩, ?_⟩
        · by_cases c : d = m' - 1
          · rw [c]; exact z.2
          · exact rall hf60 d (by omega) h2
        · exact s_asg (v := .int ((m' - 1 : Nat) : Int)) (ev_is (ev_bin (ev_var rfl) ev_c) (by congr 1; omega)) (fun H7 e7 => ⟨rfl, (e5.trans e6).trans e7⟩)
      · refine s_ret (v := .int (m' : Int)) (ev_var rfl) (fun H7 e7 => k _ H7 (((e1.trans e5).trans e6).trans e7) ⟨g, m', rfl, hg1, hg60, hgx, ?_⟩)
        by_cases c : f = 61
        · exact .inl ⟨r61 c, fun d h1 h2 => hall d h1 (by omega)⟩
        · refine .inr ⟨r1, f, hgf, by omega, hcase.resolve_left c, rf, rall (by omega), ?_⟩
          by_cases c1 : m' = 1
          · exact .inl c1
          · right
            rw [decide_eq_true (by omega), decide_eq_true (by omega)] at z
            simpa using z
end
end PLW
end
section
set_option Elab.async false
set_option linter.all false
set_option maxRecDepth 100000
set_option maxHeartbeats 2000000
namespace PLW
open PySem PySem.Spec PyProof.Rows L2 Evl RZ
open PL PySem.W SlX
/-! the law's list of words -/
theorem fm_congr {α β : Type} {f g : α → List β} : ∀ {l : List α}, (∀ x ∈ l, f x = g x) → l.flatMap f = l.flatMap g
  | [], _ => rfl
  | a :: l, h => by rw [List.flatMap_cons, List.flatMap_cons, h a (by simp), fm_congr fun x hx => h x (List.mem_cons_of_mem _ hx)]
theorem fm_assoc {α β γ : Type} (f : α → List β) (g : β → List γ) : ∀ l : List α, (l.flatMap f).flatMap g = l.flatMap fun x => (f x).flatMap g
  | [] => rfl
  | a :: l => by rw [List.flatMap_cons, List.flatMap_append, List.flatMap_cons, fm_assoc f g l]
theorem fm_map {α β γ : Type} (f : α → List β) (g : β → γ) : ∀ l : List α, (l.flatMap f).map g = l.flatMap fun x => (f x).map g
  | [] => rfl
  | a :: l => by rw [List.flatMap_cons, List.map_append, List.flatMap_cons, fm_map f g l]
theorem map_fm {α β γ : Type} (f : α → β) (g : β → List γ) : ∀ l : List α, (l.map f).flatMap g = l.flatMap fun x => g (f x)
  | [] => rfl
  | a :: l => by rw [List.map_cons, List.flatMap_cons, List.flatMap_cons, map_fm f g l]
theorem words_step (m : Nat) : ∀ l : Nat, words (m + 1) l = (List.range (l + 1)).flatMap fun s => (words m s).map ((l - s) :: ·)
  | 0 => by rw [words_s0]; simp
  | l + 1 => by
    rw [words_ss, words_step m l, fm_map, List.range_succ (n := l + 1), List.flatMap_append, List.flatMap_singleton]
    congr 1
    · refine fm_congr fun s hs => ?_
      have := List.mem_range.mp hs
      rw [List.map_map]
      refine List.map_congr_left fun y _ => ?_
      show inc ((l - s) :: y) = (l + 1 - s) :: y
      rw [show l + 1 - s = l - s + 1 by omega]
      rfl
    · rw [Nat.sub_self]
theorem words_one (l : Nat) : words 1 l = [[l]] := by
  have h1 : (words 1 l).length = 1 := by rw [words_len, nn1]
  obtain ⟨x, hx⟩ := List.length_eq_one_iff.mp h1
  have h2 := words_mem (show x ∈ words 1 l by rw [hx]; simp)
  obtain ⟨k, rfl⟩ := List.length_eq_one_iff.mp h2.1
  rw [hx]
  have : k = l := by have := h2.2; simpa using this
  rw [this]
def rws (d : Nat) : Nat → List (List Nat × Nat)
  | 0 => [([], d)]
  | j + 1 => (rws d j).flatMap fun q => (List.range (q.2 + 1)).map fun s => (q.1 ++ [q.2 - s], s)
theorem rws_ext (d : Nat) : ∀ j m, ((rws d j).flatMap fun q => (words (m + 1) q.2).map (q.1 ++ ·)) = words (j + m + 1) d
  | 0, m => by
    rw [rws, List.flatMap_singleton, show 0 + m + 1 = m + 1 by omega]
    show (words (m + 1) d).map (fun x => x) = _
    rw [List.map_id']
  | j + 1, m => by
    rw [rws, fm_assoc, show j + 1 + m + 1 = j + (m + 1) + 1 by omega, ← rws_ext d j (m + 1)]
    refine fm_congr fun q _ => ?_
    rw [map_fm, words_step (m + 1), fm_map]
    refine fm_congr fun s _ => ?_
    rw [List.map_map]
    refine List.map_congr_left fun y _ => ?_
    show (q.1 ++ [q.2 - s]) ++ y = q.1 ++ ((q.2 - s) :: y)
    rw [List.append_assoc]
    rfl
theorem rws_end (d j : Nat) : (rws d j).map (fun q => q.1 ++ [q.2]) = words (j + 1) d := by
  rw [← rws_ext d j 0]
  rw [show ((rws d j).flatMap fun q => (words (0 + 1) q.2).map (q.1 ++ ·)) = (rws d j).flatMap fun q => [q.1 ++ [q.2]] from fm_congr fun q _ => by rw [words_one]; rfl]
  induction rws d j with
  | nil => rfl
  | cons a l ih => rw [List.map_cons, List.flatMap_cons, ih]; rfl
theorem rws_len (d j : Nat) : (rws d j).length = nn (j + 1) d := by rw [← words_len, ← rws_end, List.length_map]
theorem rws_mem {d : Nat} : ∀ {j : Nat} {q : List Nat × Nat}, q ∈ rws d j → q.1.length = j ∧ q.2 ≤ d
  | 0, q, h => by
    rw [rws, List.mem_singleton] at h
    rw [h]
    exact ⟨rfl, Nat.le_refl _⟩
  | j + 1, q, h => by
    rw [rws, List.mem_flatMap] at h
    obtain ⟨r, hr, hq⟩ := h
    obtain ⟨s, hs, rfl⟩ := List.mem_map.mp hq
    have h1 := rws_mem hr
    have := List.mem_range.mp hs
    exact ⟨by rw [List.length_append, List.length_singleton, h1.1], by show s ≤ d; omega⟩
theorem nn_small7 {n d : Nat} (h1 : 1 ≤ n) (h4 : n ≤ 4) (hd : d ≤ 7) : nn n d ≤ 120 := by
  have hT : ∀ {a b : Nat}, a ≤ b → Te a ≤ Te b := fun {a b} h => by
    induction h with
    | refl => exact Nat.le_refl _
    | step _ ih => exact Nat.le_trans ih (by rw [Te_succ]; omega)
  have e : n = 1 ∨ n = 2 ∨ n = 3 ∨ n = 4 := by omega
  rcases e with rfl | rfl | rfl | rfl
  · rw [nn1]; omega
  · rw [nn2]; omega
  · rw [nn3]
    have := T_mono (show d + 2 ≤ 9 by omega)
    have e : T 9 = 36 := by decide +kernel
    omega
  · rw [nn4]
    have := hT (show d + 3 ≤ 10 by omega)
    have e : Te 10 = 120 := by decide +kernel
    omega
section
variable {K : PySem.W.Frag} {P : Program} {w : World} {mg : Str → Option Value} {σ : L2.St} {H H' : Hp} {ta tb tc te tl td ty : TE} {D : Ends} {tz tu : TS} {i j n : Nat} {R R' R1 R2 : Rl} {t : TA} {g : TG}
theorem wV_app (x y : List Nat) : wV (x ++ y) = wV x ++ wV y := by unfold wV; rw [List.map_append]
theorem evp_catW {x y : List Nat} (h1 : EvP ta σ H (rWh x)) (h2 : EvP tb σ H (rWh y)) (hz : x.length + y.length ≤ 1000) : EvP (tOp (rCatA K) ta tb) σ H (rWh (x ++ y)) := fun H1 e Q q =>
  h1 H1 e _ fun u H2 e2 ⟨a, eu, ha⟩ => h2 H2 (e.trans e2) _ fun v H3 e3 ⟨b, ev, hb⟩ => by
    have ha3 := e3 _ _ ha
    refine ⟨a, b, wV x, wV y, eu, ev, st_of ha3, st_of hb, sz_of (by rw [wV_len, wV_len]; omega), fun hx => ?_, fun hx hy => ?_, fun hx hy p hp => ?_⟩
    · have : x = [] := by cases x with
        | nil => rfl
        | cons k x => simp [wV] at hx
      subst this
      exact q _ H3 (e2.trans e3) ⟨b, rfl, hb⟩
    · have : y = [] := by cases y with
        | nil => rfl
        | cons k y => simp [wV] at hy
      subst this
      rw [List.append_nil] at q
      exact q _ H3 (e2.trans e3) ⟨a, rfl, ha3⟩
    · exact q _ _ ((e2.trans e3).trans (Ex.new hp)) ⟨p, rfl, by rw [upd_same, wV_app]⟩
def rRw (K : PySem.W.Frag) (q : List Nat × Nat) : Rl := rP1 K (rWh q.1) (.int (q.2 : Int))
theorem rRw_stb (q : List Nat × Nat) : Stb (rRw K q) := by
  intro H H' v k h
  exact rP1_stb (R := rWh q.1) (rWh_stb q.1) (.int (q.2 : Int)) k h
end
section
variable {P : Program} {w : World} {K : PySem.W.Frag} {mg : Str → Option Value} {base : Heap}
def sp_law_listed (K : PySem.W.Frag) : Sp := spR fun vs H R => ∃ n d : Nat, vs = [.int (n : Int), .int (d : Int)] ∧ 1 ≤ n ∧ n ≤ 4 ∧ d ≤ 7 ∧ R = rL K rWh (words n d)
abbrev N_law_listed : List Str := ["_law_letters", "_law_degree", "_law_found", "_law_place", "_law_longer", "_law_row", "_law_left_here", "_law_less"]
theorem sc_law_listed : FnScope N_law_listed ["_law_letters", "_law_degree"] (defScope s_law_listed) := ⟨rfl, rfl, rfl, by decide +kernel, rfl, by decide +kernel, by decide +kernel⟩
theorem has_law_listed (T : Tx K mg) : Has P w K mg base "_law_listed" ["_law_letters", "_law_degree"] 1 (sp_law_listed K) := by
  obtain ⟨fd, F⟩ := T.fn_law_listed
  refine ⟨⟨fd, F.ok sc_law_listed (fun vs H Q E h => ?_) (fun cdv A outer s H vs Q E hr h => ?_), F.bindsN fun _ _ _ _ _ _ us hl => match us, hl with | [_, _], _ => rfl⟩, F.kp, T.g_law_listed⟩
  · obtain ⟨R, ⟨n, d, rfl, _⟩, _⟩ := h; rfl
  · obtain ⟨R, ⟨n, d, rfl, n1, n4, d7, rfl⟩, k⟩ := h
    refine ⟨_, PSs.nox (pss_cons (ps_set (i := 2) sc_law_listed.nd rfl (Or.inl rfl) (pe_lst (pa_cons (pe_tup (pa_cons (pe_tup pa_nil) (pa_cons (pv 1) pa_nil))) pa_nil))) (pss_cons (ps_for PassesOwn.never rfl (pi_range1 (by rfl) T.range_ (pa_cons (pe_op op_sub (pv 0) pe_int) pa_nil)) (pg_name (i := 3) sc_law_listed.nd rfl (Or.inl rfl)) (pss_cons (ps_set (i := 4) sc_law_listed.nd rfl (Or.inl rfl) (pe_lst pa_nil)) (pss_cons (ps_for PassesOwn.never rfl (pi_list (pe_callTy call_list_of (by rfl) T.list_ (by decide +kernel) (pa_cons (pv 2) pa_nil))) (pg_tup rfl (pgs_cons (pg_name (i := 5) sc_law_listed.nd rfl (Or.inr rfl)) (pgs_cons (pg_name (i := 6) sc_law_listed.nd rfl (Or.inr rfl)) pgs_nil))) (pss_one (ps_expr (pe_bm PySem.F.plainAttrs_list PySem.F.slot_list_extend PySem.F.type_list_extend mt_extend (pv 4) (pa_cons (pe_lc (own := [("_law_less", 7)]) rfl sc_law_listed.nd (pi_range1 (by rfl) T.range_ (pa_cons (pe_op op_add (pv 6) pe_int) pa_nil)) (blkOk_by (own := [("_law_less", 7)]) (N := N_law_listed) (sc := defScope s_law_listed) (by decide +kernel)) (by intro _ _ _ _ _; refine pg_nm (i := 7) ?_ ?_ ?_ ?_; exact sc_law_listed.nd; exact rfl; all_goals first | exact .inl rfl | exact .inr rfl) (fun _ _ _ _ _ => pts_nil) (by intro _ _ _ _ _; exact (pe_tup (pa_cons (pe_op (op_catAK (K := K) rfl) (pv 5) (pe_tup (pa_cons (pe_op op_sub (pv 6) (pv 7)) pa_nil))) (pa_cons (pv 7) pa_nil))))) pa_nil))))) (pss_one (ps_set (i := 2) sc_law_listed.nd rfl (Or.inl rfl) (pv 4)))))) (pss_one (ps_ret (pe_lc (own := [("_law_row", 5), ("_law_left_here", 6)]) rfl sc_law_listed.nd (pi_list (pv 2)) (blkOk_by (own := [("_law_row", 5), ("_law_left_here", 6)]) (N := N_law_listed) (sc := defScope s_law_listed) (by decide +kernel)) (by intro _ _ _ _ _; refine pg_pair (K := K) (i := 5) (j := 6) ?_ ?_ ?_ ?_ ?_ ?_ ?_ ?_ ?_; exact rfl; exact rfl; exact sc_law_listed.nd; exact rfl; exact rfl; all_goals first | exact .inl rfl | exact .inr rfl) (fun _ _ _ _ _ => pts_nil) (by intro _ _ _ _ _; exact (pe_op (op_catAK (K := K) rfl) (pv 5) (pe_tup (pa_cons (pv 6) pa_nil))))))))), ?_⟩
    refine q_asgF (R := rRw K) (is := rws d 0) (evf_one (x := (([], d) : List Nat × Nat)) (evp_pair1 (R := rWh []) (evp_tupWh ea_nil rfl (by decide)) (rWh_stb []) (ev_var rfl)) rRw_stb) (fun l0 us0 H1 hl0 e1 h1 pd1 => ?_)
    refine q_forR1 (n := ((n - 1 : Nat) : Int)) (ea_cons (ev_is (ev_bin (ev_var rfl) ev_c) (by congr 1; omega)) ea_nil) (by omega) (fun j σ' H' => ∃ l us x3 x4 x5 x6, σ' = [some (.int (n : Int)), some (.int (d : Int)), some (.ref l), x3, x4, x5, x6, none] ∧ Ex H H' ∧ H' l = some (.lst us) ∧ Pd (rRw K) H' us (rws d j))
      (fun H2 e2 => ⟨l0, us0, none, none, none, none, rfl, e1.trans e2, e2 _ _ h1, pd1.keep rRw_stb (Kp.ex e2)⟩) ?_ ?_
    · rintro j σ' H' hj ⟨l, us, x3, x4, x5, x6, rfl, e, hl', pd⟩
      have hj4 : j + 2 ≤ 4 := by omega
      have hlenj : (rws d j).length ≤ 120 := by rw [rws_len]; exact nn_small7 (by omega) (by omega) d7
      have hlenj1 : (rws d (j + 1)).length ≤ 120 := by rw [rws_len]; exact nn_small7 (by omega) (by omega) d7
      refine q_asgF (R := rRw K) (is := []) evf_nil (fun m us1 H2 hm e2 h2 pd2 => ?_)
      obtain rfl : us1 = [] := by have := pd2.1; simpa using this
      have hmH : H m = none := fresh_back e hm
      have hml : m ≠ l := fun z => by rw [z, hl'] at hm; cases hm
      refine q_forNL (xs := us) (el_list (ev_var rfl) (sq_of (e2 _ _ hl'))) (fun p i σ'' H'' => p ≠ m ∧ H'' p = some (.lst us) ∧ ∃ ws y5 y6, σ'' = [some (.int (n : Int)), some (.int (d : Int)), some (.ref l), some (.int (j : Int)), some (.ref m), y5, y6, none] ∧ Ex H' H'' ∧ H'' m = some (.lst ws) ∧ Pd (rRw K) H'' ws (((rws d j).take i).flatMap fun q => (List.range (q.2 + 1)).map fun s => (q.1 ++ [q.2 - s], s)))
        (fun p H3 hp e3 h3 => ⟨fun z => (by rw [z, h2] at hp; cases hp), h3, [], x5, x6, rfl, e2.trans e3, e3 _ _ h2, Pd.nil⟩) (fun p i σ'' H'' _ ⟨_, h, _⟩ => sq_of h) ?_ ?_
      · rintro p i u σ'' H'' hiu ⟨hpm, hpp, ws, y5, y6, rfl, e3, h3, pdw⟩
        obtain ⟨q, hq, qa, qp, rfl, hqp, qw, rfl, hqw⟩ := (pd.keep rRw_stb (Kp.ex e3)).get hiu
        have hqm := rws_mem (List.mem_of_getElem? hq)
        have htk : (rws d j).take (i + 1) = (rws d j).take i ++ [q] := by rw [List.take_succ, hq]; rfl
        have hwl : ws.length + (q.2 + 1) ≤ 200 := by
          rw [pdw.1]
          have h4 : (((rws d j).take i).flatMap fun q => (List.range (q.2 + 1)).map fun s => (q.1 ++ [q.2 - s], s)).length ≤ (rws d (j + 1)).length := by
            rw [rws, ← List.take_append_drop i (rws d j), List.flatMap_append, List.length_append, List.take_append_drop]
            omega
          omega
        refine g_tup2 hqp ?_
        refine s_extF (S := rRw K) (is := (List.range (q.2 + 1)).map fun s => (q.1 ++ [q.2 - s], s)) h3 (ev_var rfl) (evf_lc0 (u := fun s : Nat => ((q.1 ++ [q.2 - s], s) : List Nat × Nat)) (ei_rng1 (n := q.2 + 1) (ea_cons (ev_is (ev_bin (ev_var rfl) ev_c) (by congr 1)) ea_nil) (by omega)) rRw_stb (by rw [List.length_range]; omega) gm_name ?_) (by rw [List.length_map, List.length_range]; omega) (fun ys H4 e4 pdy => ⟨hpm, ?_, ws ++ ys, _, _, rfl, Ex.mut (e3.trans e4) hm, upd_same, ?_⟩)
        · intro s x H4 e4 hs hx
          have hx2 : x = V.int (s : Int) := hx
          subst hx2
          have hsq := List.mem_range.mp hs
          exact ⟨rfl, rfl, evp_pair1 (R := rWh (q.1 ++ [q.2 - s])) (evp_catW (evp_var rfl fun H5 e5 => ⟨qw, rfl, (e4.trans e5) _ _ hqw⟩) (evp_tupWh (m := [q.2 - s]) (ea_cons (ev_bin (ev_var rfl) (ev_var rfl)) ea_nil) (by show [V.int ((q.2 : Int) - (s : Int))] = [V.int ((q.2 - s : Nat) : Int)]; congr 2; omega) (show 1 ≤ 100000 by decide)) (by rw [hqm.1]; simp; omega)) (rWh_stb _) (ev_var rfl)⟩
        · rw [upd_ne hpm]; exact e4 _ _ hpp
        · rw [htk, List.flatMap_append, List.flatMap_singleton]
          exact ((pdw.keep rRw_stb (Kp.ex e4)).append pdy).keep rRw_stb (Kp.lst (e4 _ _ h3))
      · rintro p σ'' H'' ⟨_, _, ws, y5, y6, rfl, e3, h3, pdw⟩
        rw [pd.1, List.take_length] at pdw
        exact s_asg (v := .ref m) (ev_var rfl) (fun H4 e4 => ⟨m, ws, some (.int (j : Int)), some (.ref m), y5, y6, rfl, (e.trans e3).trans e4, e4 _ _ h3, pdw.keep rRw_stb (Kp.ex e4)⟩)
    · rintro σ' H' ⟨l, us, x3, x4, x5, x6, rfl, e, hl', pd⟩
      have hj : (((n - 1 : Nat) : Int)).toNat = n - 1 := by omega
      rw [hj] at pd
      have hlen : (rws d (n - 1)).length ≤ 120 := by rw [rws_len]; exact nn_small7 (by omega) (by omega) d7
      have hw := rws_end d (n - 1)
      rw [show n - 1 + 1 = n by omega] at hw
      rw [← hw] at k
      refine s_retP (evp_lc0 (u := fun q : List Nat × Nat => q.1 ++ [q.2]) (ei_list (R := rRw K) rRw_stb (evp_var rfl fun H2 e2 => ⟨l, us, rfl, sq_of (e2 _ _ hl'), pd.keep rRw_stb (Kp.ex e2)⟩)) rWh_stb (by omega) gm_tup2 ?_) (fun v H2 e2 hv => k v H2 (e.trans e2) hv)
      rintro q x H2 e2 hq ⟨qa, qp, rfl, hqp, qw, rfl, hqw⟩
      have hqm := rws_mem hq
      exact g_tup2 hqp ⟨rfl, rfl, evp_catW (evp_var rfl fun H5 e5 => ⟨qw, rfl, e5 _ _ hqw⟩) (evp_tupWh (m := [q.2]) (ea_cons (ev_var rfl) ea_nil) rfl (show 1 ≤ 100000 by decide)) (by rw [hqm.1]; simp; omega)⟩
end
end PLW
end
section
set_option Elab.async false
set_option linter.all false
set_option maxRecDepth 100000
set_option maxHeartbeats 2000000
namespace PLW
open PySem PySem.Spec PyProof.Rows L2 Evl RZ
open PL PySem.W SlX
theorem due_has {n : Nat} (hn : n ≤ 4) {a : Nat → Nat} (G : Grows n a) {d : Nat} {m : List Nat} (hl : m.length = n) (hs : m.sum = d + 1) : inI (due n a d) m = true ↔ pos m < F n (a d) := by
  have hlen : ∀ x ∈ due n a d, x.length = m.length := fun x hx => by rw [(mem_due.mp hx).1, hl]
  have hsum : ∀ x ∈ due n a d, x.sum < m.sum := fun x hx => by have := (mem_due.mp hx).2.2.1; omega
  rw [← lex_up hn (G.top d) m hl hs]
  constructor
  · intro h
    refine up_le m _ _ (fun t h1 h2 h3 => ?_) (inI_up hlen hsum h)
    exact decide_eq_true ((due_in hn G d t (by omega) (by omega) (Nat.le_refl _)).mp h3)
  · intro h
    refine up_inI hlen (up_le m _ _ (fun t h1 h2 h3 => ?_) h)
    exact (due_in hn G d t (by omega) (by omega) (Nat.le_refl _)).mpr (of_decide_eq_true h3)
/-- the law's sieve within a degree -/
theorem due_turn {n : Nat} (hn : n ≤ 4) {a : Nat → Nat} (G : Grows n a) {d i : Nat} {x : List Nat} (hx : (words n (d + 1))[i]? = some x) (hi : i < a (d + 1)) :
    inI (due n a d ++ ((words n (d + 1)).take i).drop (F n (a d))) x = decide (i < F n (a d)) := by
  obtain ⟨h1, h2, h3⟩ := words_at _ _ _ _ hx
  have hno : inI (((words n (d + 1)).take i).drop (F n (a d))) x = false := by
    cases h : inI (((words n (d + 1)).take i).drop (F n (a d))) x with
    | false => rfl
    | true =>
      obtain ⟨y, hy, hd⟩ := inI_iff.mp h
      obtain ⟨k, hk⟩ := List.mem_iff_getElem?.mp (List.mem_of_mem_drop hy)
      rw [List.getElem?_take] at hk
      split at hk
      · rename_i c
        obtain ⟨g1, g2, g3⟩ := words_at _ _ _ _ hk
        have := dv_eq (by rw [g1, h1]) hd (by rw [g2, h2])
        rw [this] at g3
        omega
      · cases hk
  rw [inI_append, hno, Bool.or_false]
  have := due_has hn G h1 h2
  rw [h3] at this
  exact Bool.eq_iff_iff.mpr (by rw [this, decide_eq_true_eq])
section
variable {K : PySem.W.Frag} {P : Program} {w : World} {mg : Str → Option Value} {σ : L2.St} {H H' : Hp} {ta tb tc te tl td ty : TE} {D : Ends} {tz tu : TS} {i j n : Nat} {R R' R1 R2 : Rl} {t : TA} {g : TG}
theorem q_parPF {ι : Type} {S : ι → Rl} {is : List ι} {te1 te2 : TE} (h1 : EvP te1 σ H R) (h2 : EvF te2 σ H S is) (k : ∀ c p vs H1 H2, Ex H H1 → R H1 c → H1 p = none → Ex H1 H2 → H2 p = some (.lst vs) → Pd S H2 vs is → tz D ((σ.set i (some c)).set j (some (.ref p))) H2) : tSeq (tPar i j (tCons te1 (tCons te2 tNil))) tz D σ H :=
  h1 H (Ex.refl H) _ fun c H1 e1 hc => h2 H1 e1 _ fun p vs H2 hp e2 h2' pd => ⟨_, _, rfl, k c p vs H1 H2 e1 hc hp e2 h2' pd⟩
end
section
variable {P : Program} {w : World} {K : PySem.W.Frag} {mg : Str → Option Value} {base : Heap}
/-- what the law means by the first lot's least members -/
def duL (n : Nat) (ls : List (List Nat)) (last : Nat) : List (List Nat) := if isA n ls then ls else due n (iA n ls) last
def sp_law_due (K : PySem.W.Frag) : Sp := spR fun vs H R => ∃ (n last : Nat) (ls : List (List Nat)) (a : Addr) (xs : List V), vs = [.int (n : Int), .ref a, .int (last : Int)] ∧ SqL K H a xs ∧ Pd rWh H xs ls ∧ (∀ x ∈ ls, x.length = n) ∧ Ok0 n ls ∧ ls.length ≤ 9 ∧ 1 ≤ n ∧ n ≤ 4 ∧ last ≤ 7 ∧ R = fun H v => ∃ so, so.Perm (duL n ls last) ∧ so.Pairwise leW ∧ rL K (rW K) so H v
abbrev N_law_due : List Str := ["_law_letters", "_law_members_here", "_law_last", "_law_counts", "_law_found", "_law_degree", "_law_products", "_law_product"]
theorem sc_law_due : FnScope N_law_due ["_law_letters", "_law_members_here", "_law_last"] (defScope s_law_due) := ⟨rfl, rfl, rfl, by decide +kernel, rfl, by decide +kernel, by decide +kernel⟩
theorem has_law_due (T : Tx K mg) : Has P w K mg base "_law_due" ["_law_letters", "_law_members_here", "_law_last"] 4 (sp_law_due K) := by
  have h_law_numerator : Has P w K mg base _ _ 1 (sp_law_numerator K) := has_law_numerator T
  have h_law_listed : Has P w K mg base _ _ 1 (sp_law_listed K) := has_law_listed T
  have h_law_left : Has P w K mg base _ _ 3 sp_law_left := has_law_left T
  have h_law_has : Has P w K mg base _ _ 2 (sp_law_has K) := has_law_has T
  obtain ⟨fd, F⟩ := T.fn_law_due
  refine ⟨⟨fd, F.ok sc_law_due (fun vs H Q E h => ?_) (fun cdv A outer s H vs Q E hr h => ?_), F.bindsN fun _ _ _ _ _ _ us hl => match us, hl with | [_, _, _], _ => rfl⟩, F.kp, T.g_law_due⟩
  · obtain ⟨R, ⟨n, last, ls, a, xs, rfl, _⟩, _⟩ := h; rfl
  · obtain ⟨R, ⟨n, last, ls, a, xs, rfl, ha, pd, hx, h0, hl, n1, n4, l7, rfl⟩, k⟩ := h
    refine ⟨_, PSs.nox (pss_cons (ps_par (i := 3) (j := 4) (by rfl) sc_law_due.nd rfl rfl (by decide) rfl rfl (pa_cons (pe_fz (pe_h h_law_numerator (hr.mono (by decide)) pass0 (pa_cons (pv 0) (pa_cons (pv 1) pa_nil)))) (pa_cons (pe_lst pa_nil) pa_nil)) (by rfl)) (pss_cons (ps_if (pt_cmpR (op_eqD hr.units) (pv 1) (pe_lst (pa_cons (pe_op op_repZ (pe_tup (pa_cons pe_int pa_nil)) (pv 0)) pa_nil)) (nomark _)) (pss_one (ps_ret (pv 1))) pss_nil) (pss_cons (ps_for PassesOwn.never rfl (pi_range2 (by rfl) T.range_ (pa_cons pe_int (pa_cons (pe_op op_add (pv 2) pe_int) pa_nil))) (pg_name (i := 5) sc_law_due.nd rfl (Or.inl rfl)) (pss_cons (ps_set (i := 6) sc_law_due.nd rfl (Or.inl rfl) (pe_h h_law_listed (hr.mono (by decide)) pass0 (pa_cons (pv 0) (pa_cons (pv 5) pa_nil)))) (pss_one (ps_for PassesOwn.never rfl (pi_list (pe_slice sl_list (pv 6) po_none (po_some (pe_op op_sub (pe_callB call_len_seq (by rfl) T.len_ (by decide +kernel) (pa_cons (pv 6) pa_nil)) (pe_h h_law_left (hr.mono (by decide)) pass0 (pa_cons (pv 0) (pa_cons (pv 3) (pa_cons (pv 5) pa_nil)))))))) (pg_name (i := 7) sc_law_due.nd rfl (Or.inl rfl)) (pss_one (ps_if (pt_not (pt_val (pe_h h_law_has (hr.mono (by decide)) pass0 (pa_cons (pv 4) (pa_cons (pv 7) pa_nil))))) (pss_one (ps_expr (pe_bm PySem.F.plainAttrs_list PySem.F.slot_list_append PySem.F.type_list_append mt_append (pv 4) (pa_cons (pv 7) pa_nil)))) pss_nil)))))) (pss_one (ps_ret (pe_callB (cr_sortW hr.units) (by rfl) T.sorted_ (by decide +kernel) (pa_cons (pv 4) pa_nil))))))), ?_⟩
    refine q_parPF (R := fun H v => ∃ N, (Num n ls N ∧ nd N ∧ N.length ≤ 1000) ∧ rD N H v) (S := rWh) (is := []) (evp_fz (evd_call (ea_cons (ev_var rfl) (ea_cons (ev_var rfl) ea_nil)) (fun H1 e1 => ⟨ls, n, .ref a, rfl, ⟨a, xs, rfl, ex_l e1 ha, (pd.keep rWh_stb (Kp.ex e1)).impW⟩, hx, n1, n4, hl, rfl⟩))) evf_nil (fun c l us0 H1 H2 e1 ⟨N, ⟨g1, g2, g3⟩, hc⟩ hl0 e2 h2 pd2 => ?_)
    obtain rfl : us0 = [] := by have := pd2.1; simpa using this
    have hlH : H l = none := fresh_back e1 hl0
    have e12 := e1.trans e2
    have hc2 := rD_ex e2 hc
    refine q_when (b := decide (isA n ls)) (et_test (ev_is (ev_eqD (d := .list (ls.map encW)) (e := .list ([List.replicate n 0].map encW)) (evp_var rfl fun H3 e3 => dp_L ⟨a, xs, rfl, ex_l (e12.trans e3) ha, (pd.keep rWh_stb (Kp.ex (e12.trans e3))).impW⟩) ((EvF.evp (evf_one (S := rW K) (x := List.replicate n 0) (evp_zeros n1 (by omega) (ev_var rfl)) (rW_stb K))).imp fun H3 v hv => dp_L hv) (sh_L _) (sh_L _)) (by rw [PyData.eqv, eqvA_W]; rfl))) (fun z H3 e3 => ?_) (fun z H3 e3 => ?_)
    · have hA := of_decide_eq_true z
      refine s_ret (v := .ref a) (ev_var rfl) (fun H4 e4 => k _ H4 ((e12.trans e3).trans e4) ⟨ls, ?_, ?_, a, xs, rfl, ex_l ((e12.trans e3).trans e4) ha, (pd.keep rWh_stb (Kp.ex ((e12.trans e3).trans e4))).impW⟩)
      · unfold duL; rw [if_pos hA]
      · rw [hA]; exact List.pairwise_singleton _ _
    have hA := of_decide_eq_false z
    have hs := h0.resolve_left hA
    have G := grows n4 hx hs
    have e13 := e12.trans e3
    refine q_forR2 (lo := 1) (n := ((last + 1 : Nat) : Int)) (ea_cons ev_c (ea_cons (ev_is (ev_bin (ev_var rfl) ev_c) rfl) ea_nil)) (by omega) (fun j σ' H' => ∃ us x5 x6 x7, σ' = [some (.int (n : Int)), some (.ref a), some (.int (last : Int)), some c, some (.ref l), x5, x6, x7] ∧ Ex H H' ∧ rD N H' c ∧ H' l = some (.lst us) ∧ Pd rWh H' us (due n (iA n ls) j))
      (fun H4 e4 => ⟨[], none, none, none, rfl, e13.trans e4, rD_ex (e3.trans e4) hc2, (e3.trans e4) _ _ h2, Pd.nil⟩) ?_ ?_
    · rintro j σ' H' hj ⟨us, x5, x6, x7, rfl, e, hcD, hl', pdu⟩
      have hj7 : j + 1 ≤ 7 := by omega
      rw [show (1 : Int) + (j : Int) = ((j + 1 : Nat) : Int) by omega]
      have hnn := nn_small7 n1 n4 hj7
      have hli := left_iA n ls (j + 1)
      refine q_asgP (evp_call (ea_cons (ev_var rfl) (ea_cons (ev_var rfl) ea_nil)) (SpP.of fun H4 _ => ⟨n, j + 1, rfl, n1, n4, hj7, rfl⟩)) (fun u H4 e4 ⟨p, ys, eu, hp, pdy⟩ => ?_)
      subst eu
      have hwl := words_len n (j + 1)
      have hdl : ∀ d, d ≤ 7 → (due n (iA n ls) d).length ≤ 120 * d := fun d => by
        induction d with
        | zero => intro _; simp [due]
        | succ d ih =>
          intro hd
          have h1 := ih (by omega)
          have h2 := nn_small7 n1 n4 hd
          have h3 := words_len n (d + 1)
          rw [due, List.length_append]
          unfold dueAt
          rw [List.length_drop, List.length_take]
          omega
      refine s_forNL (D := _) (xs := ys.take (iA n ls (j + 1))) (by
        have hh := el_sl (K := K) (te := tVar 6) (tl := tNoPart) (th := tPart (tOp (rI0 fun i j => .int (i - j)) (tCB (rLenQ K) (tCons (tVar 6) tNil)) (tCall sp_law_left [] E0 (tCons (tVar 0) (tCons (tVar 3) (tCons (tVar 5) tNil)))))) (σ := [some (.int (n : Int)), some (.ref a), some (.int (last : Int)), some c, some (.ref l), some (.int ((j + 1 : Nat) : Int)), some (.ref p), x7]) (H := H4) (lo := none) (hi := some ((iA n ls (j + 1) : Nat) : Int)) (ev_var rfl) eo_none (eo_some (ev_is (ev_bin (ev_lenL (xs := ys) (ev_var rfl) hp) (EvP.ev (v := .int ((left n ls (j + 1) : Nat) : Int)) (evp_call (ea_cons (ev_var rfl) (ea_cons (ev_var rfl) (ea_cons (ev_var rfl) ea_nil))) (SpP.of fun H5 e5 => ⟨n, j + 1, N, c, rfl, n1, n4, by omega, rD_ex (e4.trans e5) hcD, g2, g3, by rw [g1 (j + 1)]; rfl⟩)))) (by rw [pdy.1, hwl]; congr 1; omega))) hp
        rw [cut_to] at hh
        exact hh) (fun q i σ'' H'' => q ≠ l ∧ H'' q = some (.lst (ys.take (iA n ls (j + 1)))) ∧ ∃ ws y7, σ'' = [some (.int (n : Int)), some (.ref a), some (.int (last : Int)), some c, some (.ref l), some (.int ((j + 1 : Nat) : Int)), some (.ref p), y7] ∧ Ex H H'' ∧ rD N H'' c ∧ Pd rWh H'' ys (words n (j + 1)) ∧ H'' l = some (.lst ws) ∧ Pd rWh H'' ws (due n (iA n ls) j ++ ((words n (j + 1)).take i).drop (PL.F n (iA n ls j))))
        (fun q H5 hq e5 h5 => ⟨fun z => (by rw [z, e4 _ _ hl'] at hq; cases hq), h5, us, x7, rfl, (e.trans e4).trans e5, rD_ex (e4.trans e5) hcD, pdy.keep rWh_stb (Kp.ex e5), (e4.trans e5) _ _ hl', by rw [List.take_zero, List.drop_nil, List.append_nil]; exact pdu.keep rWh_stb (Kp.ex (e4.trans e5))⟩) (fun q i σ'' H'' _ ⟨_, h, _⟩ => sq_of h) ?_ ?_
      · rintro q i u σ'' H'' hiu ⟨hql, hqq, ws, y7, rfl, e5, hcD5, pdy5, hws, pdw⟩
        have hia : i < iA n ls (j + 1) := by
          have := (List.getElem?_eq_some_iff.mp hiu).1
          rw [List.length_take] at this
          omega
        rw [List.getElem?_take_of_lt hia] at hiu
        obtain ⟨x, hjx, b, rfl, hb⟩ := pdy5.get hiu
        obtain ⟨w1, w2, w3⟩ := words_at _ _ _ _ hjx
        have htn := due_turn n4 G hjx hia
        have htk : (words n (j + 1)).take (i + 1) = (words n (j + 1)).take i ++ [x] := by rw [List.take_succ, hjx]; rfl
        have htl : ((words n (j + 1)).take i).length = i := by rw [List.length_take]; have := (List.getElem?_eq_some_iff.mp hjx).1; omega
        have hfl : (due n (iA n ls) j ++ ((words n (j + 1)).take i).drop (PL.F n (iA n ls j))).length ≤ 1000 := by
          rw [List.length_append, List.length_drop, List.length_take]
          have := hdl j (by omega)
          omega
        refine s_when (b := !decide (i < PL.F n (iA n ls j))) (et_not (et_is (et_test (evp_call (ea_cons (ev_var rfl) (ea_cons (ev_var rfl) ea_nil)) (SpP.of fun H6 e6 => ⟨_, x, .ref l, b, rfl, ⟨l, ws, rfl, sq_of (e6 _ _ hws), (pdw.keep rWh_stb (Kp.ex e6)).impW⟩, st_of (e6 _ _ hb), fun y hy => ?_, by omega, by omega, rfl⟩)).ev) htn)) (fun z H6 e6 => ?_) (fun z H6 e6 => ?_)
        · have hFi : PL.F n (iA n ls j) ≤ i := by
            by_cases c : i < PL.F n (iA n ls j)
            · rw [decide_eq_true c] at z; cases z
            · omega
          refine s_app (l := l) (e6 _ _ hws) (ev_var rfl) (ev_var rfl) (by rw [pdw.1]; omega) (fun H7 e7 => ⟨hql, ?_, ws ++ [.ref b], _, rfl, Ex.mut ((e5.trans e6).trans e7) hlH, ?_, ?_, upd_same, ?_⟩)
          · rw [upd_ne hql]; exact (e6.trans e7) _ _ hqq
          · obtain ⟨d', o, ec, hd'⟩ := rD_ex (e6.trans e7) hcD5
            refine ⟨d', o, ec, ?_⟩
            rw [upd_ne (fun z => by rw [z, (e6.trans e7) _ _ hws] at hd'; cases hd')]
            exact hd'
          · exact (pdy5.keep rWh_stb (Kp.ex (e6.trans e7))).keep rWh_stb (Kp.lst ((e6.trans e7) _ _ hws))
          · rw [htk, List.drop_append_of_le_length (by omega), ← List.append_assoc]
            exact pd_app (e6 _ _ hws) e7 (pdw.keep rWh_stb (Kp.ex e6)) rWh_stb ⟨b, rfl, (e6.trans e7) _ _ hb⟩
        · have hFi : i < PL.F n (iA n ls j) := by
            by_cases c : i < PL.F n (iA n ls j)
            · exact c
            · rw [decide_eq_false c] at z; cases z
          refine ⟨hql, e6 _ _ hqq, ws, _, rfl, e5.trans e6, rD_ex e6 hcD5, pdy5.keep rWh_stb (Kp.ex e6), e6 _ _ hws, ?_⟩
          have h7 : ((words n (j + 1)).take (i + 1)).drop (PL.F n (iA n ls j)) = ((words n (j + 1)).take i).drop (PL.F n (iA n ls j)) := by
            rw [List.drop_eq_nil_of_le (by rw [List.length_take]; omega), List.drop_eq_nil_of_le (by omega)]
          rw [h7]
          exact pdw.keep rWh_stb (Kp.ex e6)
        · rcases List.mem_append.mp hy with h6 | h6
          · rw [(mem_due.mp h6).1, w1]
          · rw [(words_mem (List.mem_of_mem_take (List.mem_of_mem_drop h6))).1, w1]
      · rintro q σ'' H'' ⟨hql, hqq, ws, y7, rfl, e5, hcD5, pdy5, hws, pdw⟩
        have hyl : (ys.take (iA n ls (j + 1))).length = iA n ls (j + 1) := by rw [List.length_take, pdy.1, hwl]; omega
        rw [hyl] at pdw
        exact ⟨ws, _, _, _, rfl, e5, hcD5, hws, pdw⟩
    · rintro σ' H' ⟨us, x5, x6, x7, rfl, e, hcD, hl', pdu⟩
      have hlast : (((last + 1 : Nat) : Int) - 1).toNat = last := by omega
      rw [hlast] at pdu
      refine evf_sortW (ms := due n (iA n ls) last) (evp_var rfl fun H7 e7 => ⟨l, us, rfl, sq_of (e7 _ _ hl'), (pdu.keep rWh_stb (Kp.ex e7)).impW⟩) (fun m hm z => ?_) H' (Ex.refl H') _ (fun ms' p vs H8 hp hpw _ e8 h8 pd8 => k _ H8 (e.trans e8) ⟨ms', ?_, hpw, p, vs, rfl, sq_of h8, pd8⟩)
      · have := (mem_due.mp hm).1
        rw [z] at this
        simp at this; omega
      · unfold duL; rw [if_neg hA]; exact hp
end
end PLW
end
section
set_option Elab.async false
set_option linter.all false
set_option maxRecDepth 100000
set_option maxHeartbeats 2000000
namespace PLW
open PySem PySem.Spec PyProof.Rows L2 Evl RZ
open PL PySem.W SlX
/-- powers with a large base -/
def CPowB (i j : Int) : Prop := 0 ≤ j ∧ (Builtin.Int.intBits i : Int) * j ≤ 2 ^ 27
theorem op_powB {X : Cx} : OpR X (binaryOp .Pow) (rI CPowB fun i j => .int (i ^ j.toNat)) := opI fun _ _ _ _ _ _ _ hc q => pow_int hc.1 hc.2 q
section
variable {P : Program} {w : World} {K : PySem.W.Frag} {mg : Str → Option Value} {base : Heap}
theorem evA_ret3 {t1 t2 : TE} {a b : Int} {σ : L2.St} {H H0 : Hp} {D : Ends} {c : Int} (k : ∀ t H2, H0 t = none → Ex H0 H2 → Tub H2 t → D.rt (.ref t) H2) (e : Ex H0 H) (h1 : Ev t1 σ H (.int a)) (h2 : Ev t2 σ H (.int b)) : tRet (tLst (tCons t1 (tCons t2 (tCons (tC (.int c)) tNil)))) D σ H := by
  unfold tRet tLst
  refine (ea_cons h1 (ea_cons h2 (ea_cons (ev_c (v := .int c)) ea_nil))) H (Ex.refl H) _ fun H1 e1 => ?_
  exact ⟨sz_of (show 3 ≤ 100000 by decide), fun p hp => k p _ (fresh_back (e.trans e1) hp) ((e.trans e1).trans (Ex.new hp)) ⟨a, b, c, upd_same⟩⟩
def sp_law_tub (K : PySem.W.Frag) : Sp := fun vs H Q _ => ∃ (a : Addr) (ns : List Int) (k : Nat), vs = [.ref a, .int (k : Int)] ∧ SqL K H a (ns.map V.int) ∧ k < 100 ∧ ∀ t H2, H t = none → Ex H H2 → Tub H2 t → Q (.ref t) H2
abbrev N_law_tub : List Str := ["_law_script", "_law_spot", "_law_cell", "_law_great"]
theorem sc_law_tub : FnScope N_law_tub ["_law_script", "_law_spot"] (defScope s_law_tub) := ⟨rfl, rfl, rfl, by decide +kernel, rfl, by decide +kernel, by decide +kernel⟩
theorem has_law_tub (T : Tx K mg) : Has P w K mg base "_law_tub" ["_law_script", "_law_spot"] 1 (sp_law_tub K) := by
  obtain ⟨fd, F⟩ := T.fn_law_tub
  refine ⟨⟨fd, F.ok sc_law_tub (fun vs H Q E h => ?_) (fun cdv A outer s H vs Q E hr h => ?_), F.bindsN fun _ _ _ _ _ _ us hl => match us, hl with | [_, _], _ => rfl⟩, F.kp, T.g_law_tub⟩
  · obtain ⟨a, ns, k, rfl, _⟩ := h; rfl
  · obtain ⟨a, ns, i, rfl, ha, hi, k⟩ := h
    refine ⟨_, PSs.nox (pss_cons (ps_set (i := 2) sc_law_tub.nd rfl (Or.inl rfl) (pe_ifExp (pt_cmpR op_lt (pv 1) (pe_callB call_len_seq (by rfl) T.len_ (by decide +kernel) (pa_cons (pv 0) pa_nil)) (nomark _)) (pe_callTy call_int1 (by rfl) T.int_ (by decide +kernel) (pa_cons (pe_ix ix_list (pv 0) (pv 1) (fun _ _ => rfl)) pa_nil)) (pe_op op_add (pe_op op_mul pe_int (pv 1)) pe_int))) (pss_cons (ps_set (i := 3) sc_law_tub.nd rfl (Or.inl rfl) (pe_op op_mod (pe_callTy call_int1 (by rfl) T.int_ (by decide +kernel) (pa_cons (pe_callB call_abs (by rfl) T.abs_ (by decide +kernel) (pa_cons (pv 2) pa_nil)) pa_nil)) (pe_op op_powB (pe_op op_pow pe_int pe_int) pe_int))) (pss_one (ps_ret (pe_lst (pa_cons (pe_callB (call_max2 rfl) (by rfl) T.max_ (by decide +kernel) (pa_cons pe_int (pa_cons (pe_op op_sub (pv 3) (pe_op op_pow pe_int pe_int)) pa_nil))) (pa_cons (pe_op op_add (pe_op op_add (pe_op op_add (pe_op op_mul (pe_op op_mod (pe_callTy call_int1 (by rfl) T.int_ (by decide +kernel) (pa_cons (pv 3) pa_nil)) pe_int) pe_int) (pe_op op_mul pe_int (pv 1))) (pe_op op_mul pe_int (pe_callTy call_int1 (by rfl) T.int_ (by decide +kernel) (pa_cons (pe_cmpR op_lt (pv 2) pe_int (nomark _)) pa_nil)))) pe_int) (pa_cons pe_int pa_nil)))))))), ?_⟩
    obtain ⟨c, hc⟩ : ∃ c : Int, (if i < ns.length then V.int (ns.getD i 0) else V.int (127 * (i : Int) + 83)) = .int c := by by_cases h : i < ns.length <;> simp [h]
    refine q_asg (v := .int c) (ev_if (b := decide (((i : Nat) : Int) < ((ns.map V.int).length : Nat))) (et_test (ev_cmp (ev_var rfl) (ev_lenL (ev_var rfl) ha))) (fun z => ?_) (fun z => ?_)) (fun H1 e1 => ?_)
    · have hl : i < ns.length := by have := of_decide_eq_true z; rw [List.length_map] at this; omega
      rw [if_pos hl] at hc
      rw [← hc]
      exact ev_cb (ea_cons (ev_lsAt (k := i) (v := V.int (ns.getD i 0)) (ev_var rfl) ha (ev_var rfl) (by rw [List.getElem?_map, List.getElem?_eq_getElem hl, List.getD_eq_getElem?_getD, List.getElem?_eq_getElem hl]; rfl)) ea_nil) fun H1 _ Q q => .inl ⟨_, rfl, q⟩
    · have hl : ¬ i < ns.length := by have := of_decide_eq_false z; rw [List.length_map] at this; omega
      rw [if_neg hl] at hc
      rw [← hc]
      exact ev_bin (ev_mul ev_c (ev_var rfl) (.inl ⟨by decide, by decide⟩)) ev_c
    have hp : ∀ {σ : L2.St} {H : Hp}, Ev (tOp (rI CPow fun i j => .int (i ^ j.toNat)) (tC (.int 10)) (tC (.int 56))) σ H (.int (10 ^ 56)) := ev_op ev_c ev_c (rv_I ⟨by decide, by decide, by decide⟩)
    have hp2 : ∀ {σ : L2.St} {H : Hp}, Ev (tOp (rI CPow fun i j => .int (i ^ j.toNat)) (tC (.int 10)) (tC (.int 15))) σ H (.int (10 ^ 15)) := ev_op ev_c ev_c (rv_I ⟨by decide, by decide, by decide⟩)
    let g : Int := (if c < 0 then -c else c) % ((10 ^ 56) ^ 6)
    have hg : 0 ≤ g := Int.emod_nonneg _ (by decide +kernel)
    refine q_asg (v := .int g) (ev_op (ev_cb (ea_cons (ev_cb (ea_cons (ev_var rfl) ea_nil) fun H2 _ Q q => ⟨_, rfl, q⟩) ea_nil) fun H2 _ Q q => .inl ⟨_, rfl, q⟩) (ev_op hp ev_c (rv_I ⟨by decide, by decide +kernel⟩)) (rv_I (by decide +kernel))) (fun H2 e2 => ?_)
    have hm := Int.emod_nonneg g (show (2147483563 : Int) ≠ 0 by decide)
    have hm2 := Int.emod_lt_of_pos g (show (0 : Int) < 2147483563 by decide)
    have hb : ∀ b : Bool, ((-(2 ^ 64) : Int) < (if b then 1 else 0) ∧ ((if b then 1 else 0) : Int) < 2 ^ 64) := fun b => by cases b <;> decide
    refine evA_ret3 (k := k) (e := e1.trans e2)
      (ev_max2 ev_c (ev_bin (ev_var rfl) hp2))
      (ev_bin (ev_bin (ev_bin (ev_mul (ev_op (ev_cb (ea_cons (ev_var rfl) ea_nil) fun H3 _ Q q => .inl ⟨_, rfl, q⟩) ev_c (rv_I (by decide))) ev_c (.inl ⟨by omega, by omega⟩)) (ev_mul ev_c (ev_var rfl) (.inl ⟨by decide, by decide⟩))) (ev_mul ev_c (ev_cb (ea_cons (ev_cmp (ev_var rfl) ev_c) ea_nil) fun H3 _ Q q => .inr ⟨_, rfl, q⟩) (.inl ⟨by decide, by decide⟩))) ev_c)
end
end PLW
end
section
set_option Elab.async false
set_option linter.all false
set_option maxRecDepth 100000
set_option maxHeartbeats 2000000
namespace PySem
namespace TMX
open PySem.W PySem.Calls PyProof.Rows PySem.HandSPX
open Builtin Builtin.ObjectAttr
/-- what the written part says of TooMany, at C, of its __init__, at fI, of the cell that names the class there -/
structure TmTxt (K : Frag) (mg : Str → Option Value) (C fI cc : Addr) : Prop where
  gC : mg "TooMany" = some (.ref C)
  gs : mg "super" = none
  ini : excInitIn K C ovB "OverflowError.__new__" = true
  over : excOver K C ovB = true
  sa : findIn K (.ref C) "__setattr__" = some (some (.builtin "object.__setattr__"))
  ga : findIn K (.ref C) "__getattribute__" = some (some (.builtin "BaseException.__getattribute__"))
  gg : findIn K (.ref C) "__getattr__" = some none
  noN : takerIn K C "most" = some none
  noM : findIn K (.ref C) "most" = some none
  iC : findIn K (.ref C) "__init__" = some (some (.ref fI))
  fI_ : isFn K (.ref fI) = true
  kC : keepIn K (.ref C) = true
  exC : subIn K (.ref C) (.type "BaseException") = some true
  ovC : subIn K (.ref C) (.type "OverflowError") = some true
  tyC : typeIn K (.ref C) = some (.type "type")
  hdC : hasDictIn K C = true
  te : exmOne K (.ref C) (.ref C) = some true
  sup : ks_superIn K C C "__init__" = some (some (.builtin "OverflowError.__init__"))
  tp : nsIn K cStatics "thirdparty.any" = some none
  self_ : mroIn K C (.ref C) = some true
  cell : ∃ cl cld csl, K.lookup cc = some ⟨cl, cld, .cell (some (.ref C)), csl⟩
  fn : ∃ (oc : Value) (od : Option Addr) (doc pm : Value) (an : Option Addr) (cda : Addr) (ct : Value) (osl : Array (Option Value)) (ccl : Value) (cdd : Option Addr) (vs : Array Value) (ccs : Array (Option Value)) (tf : Tok),
    K.lookup fI = some ⟨oc, od, .func (ksFn "__init__" "TooMany.__init__" (L2.defArgs PLW.s_TooMany) (L2.defBody PLW.s_TooMany) (L2.defScope PLW.s_TooMany) .none .none doc pm an (.ref cda) ct cc), osl⟩ ∧ codeIn K (.ref cda) "TooMany.__init__" = true ∧
    K.lookup cda = some ⟨ccl, cdd, .fields vs, ccs⟩ ∧ vs[2]? = some (.str "/claim/cut.py" tf)
/-- what the walk asks of the program's own head -/
structure PgOk (P : Program) : Prop where
  file : ((P.main.file : Str) == ("/claim/cut.py" : Str)) = true
  sup : (P.main.scope.names.lookup ("super" : Str)).isSome = false
/-- a made TooMany -/
structure Made (h h' : Heap) (e C d : Addr) (v : Value) : Prop where
  keep : ∀ b o, h.get? b = some o → h'.get? b = some o
  new : h.objs.size ≤ e
  obj : ∃ oe vs, h'.get? e = some oe ∧ oe.cls = .ref C ∧ oe.dict = some d ∧ oe.data = .fields vs ∧ vs[1]? = some .none
  dbig : h.objs.size ≤ d
  dne : d ≠ e
  ns : h'.Ns1 d (fun y => if y = "most" then some v else none)
theorem len_one (v : Value) : [v].length ≤ sizeLine := by
  rw [sizeLine_eq]
  exact (by decide : 1 ≤ 16777216)
section
variable {prog : Program} {w : World} {A : Around} {E : Value → Shared → Prop} {R : Result → Shared → Prop} {s : Shared} {K : Frag} {mg : Str → Option Value} {C fI cc : Addr} {base h₀ : Heap} {L : Addr} {m : Str → Option Value} {news : List (Addr × Obj)}
/-- super() in __init__ -/
theorem tm_node {body : List Stmt} {q : Str} {f x cda : Addr} {p0 p1 : Pos} {attr : Str} {whole : Sem Value} {ar : Arg} {vs : Array Value} {tf : Tok} {oc ccl : Value} {od cdd : Option Addr} {osl ccs : Array (Option Value)} {fd : FuncData} {ox : Obj} {Q : Value → Shared → Prop} {scope : Scope}
    (T : TmTxt K mg C fI cc) (PG : PgOk prog) (M : L2.Mod K mg base) (hb : ∀ b o, base.get? b = some o → s.heap.get? b = some o) (F : Fr h₀ L s.heap m) (N : News h₀ L s.heap news) (I : InstAt s.heap x ox C none)
    (hf : K.lookup f = some ⟨oc, od, .func fd, osl⟩) (hp : (fd.params.posonlyargs ++ fd.params.args).head? = some ar) (hv : m ar.arg = some (.ref x)) (hcode : K.lookup cda = some ⟨ccl, cdd, .fields vs, ccs⟩) (hvs : vs[2]? = some (.str "/claim/cut.py" tf))
    (hat : (attr == ("__class__" : Str)) = false) (hks : scope.names.lookup ("super" : Str) = some .globalImplicit) (hkc : scope.names.lookup ("__class__" : Str) = some .free) (hka : scope.names.lookup ar.arg = some .local) (hk : scope.kind = .function)
    (h : ∀ so h', Fr h₀ L h' m → News h₀ L h' ((so, ks_superObj C x C) :: news) → (∀ p ∈ news, p.1 < so) → (∀ b o, s.heap.get? b = some o → h'.get? b = some o) → Q (.ref so) { s with heap := h' }) :
    _root_.PySem.wpAt (model prog w) A (.func body (ksEnv q scope L f (.ref cda) cc)) (attributeBase (.Call (.Name "super" p0) [] [] p1) attr (ksEnv q scope L f (.ref cda) cc) whole) Q E s := by
  have X : K.In s.heap := M.kin.keeps hb
  obtain ⟨mb, b1, b2⟩ := M.blt
  obtain ⟨cl, cld, csl, hcell⟩ := T.cell
  obtain ⟨cdC, hcd, _⟩ := any_some T.over
  obtain ⟨hh, g, d, t, os⟩ := s
  obtain ⟨oD, hD1, hD2⟩ : ∃ oD, hh.get? C = some oD ∧ oD.data = .cls cdC := by
    unfold clsIn at hcd
    split at hcd
    · rename_i c d cd' sl ho
      cases hcd
      exact ⟨_, X _ _ ho, rfl⟩
    · cases hcd
  refine ks_wpAt_super_base (env := ksEnv q scope L f (.ref cda) cc) hks hkc hat rfl (X _ _ hf) rfl hp rfl (X _ _ hcode) rfl hvs PG.file PG.sup ?_
  refine ks_loadName_global hk hks (loadGlobal_builtin (env := ksEnv q scope L f (.ref cda) cc) (M.glob.keeps hb) T.gs (b1.keeps hb) ((b2 _ (by decide +kernel)).trans (by first | boot_by_name | rfl | kernel_rfl)) ⟨rfl, ?_⟩)
  refine wpAny_loadName_free hk hkc rfl ⟨_, X _ _ hcell, rfl⟩ ?_
  refine wpAny_loadName_local hk hka F.ns hv ?_
  refine ks_wpAny_isType_cls hD1 hD2 ⟨rfl, ?_⟩
  refine ks_wpAny_call_super hD1 hD2 I.at_ I.cls (fun c e => ?_) (looks_mroIn X T.self_) (fun h' e k => ?_)
  · have z := I.no
    unfold notCls at z
    rw [e] at z
    exact Bool.noConfusion z
  · obtain ⟨F', N', l'⟩ := ks_newsPush (s := ⟨hh, g, d, t, os⟩) F N rfl e k
    exact h _ _ F' N' l' k
/-- a first field of an exception over OverflowError -/
theorem tm_osa {h : Heap} {g : Array GenState} {d : Drawn} {t : Nat} {os : OsState} {name : Str} {tk : Tok} {v : Value} {x t1 : Addr}
    (T : TmTxt K mg C fI cc) (X : K.In h) (hx : h.get? x = some (excObj C t1 none .none)) (hn : takerIn K C name = some none)
    (hq : ∀ h' tk' dx, (∀ b o, b ≠ x → h.get? b = some o → h'.get? b = some o) → h.objs.size ≤ dx → dx ≠ x → h'.get? x = some (excObj C t1 (some dx) .none) →
      h'.Ns1 dx (fun y => if y = name then some v else none) → R (.ok (.ret .none)) ⟨h', g, d, tk', os⟩) :
    codeAny (model prog w) A (.call (.builtin "object.__setattr__") ⟨[.ref x, .str name tk, v], []⟩) R ⟨h, g, d, t, os⟩ := by
  have hxs : x ≠ h.objs.size := Nat.ne_of_lt (Heap.lt_size hx)
  refine osa_openX (s := ⟨h, g, d, t, os⟩) (od := none) F.store_OverflowError X ⟨hx, rfl, rfl, trivial⟩ T.over hn fun b => ?_
  obtain ⟨cd, hc, hd'⟩ := any_some T.hdC
  refine wpAny_bind (wpAny_pure (wpAny_bind (instanceDict_exc (s := ⟨h, g, d, t, os⟩) hx (looks_clsIn X hc) hd' ?_)))
  show wpAny _ _ (storeInDict h.objs.size (.str name tk) name v) _ _ _
  refine HandSPX.store_in_new ?_ ?_
  · exact ⟨_, #[], _, (Heap.get?_update_ne _ _ _ _ hxs.symm).trans (Heap.get?_push_at rfl rfl), rfl, fun e he => absurd he (by simp), fun _ => rfl⟩
  · intro h' tk' hn' hs
    have hx₁ : (h.push (dictOf [] 0)).get? x = some (excObj C t1 none .none) := Heap.get?_push_of_some _ hx
    refine hq h' tk' h.objs.size (fun b o hb ho => ?_) (Nat.le_refl _) hxs.symm ?_ hn'
    · exact (hs.2 b (Nat.ne_of_lt (Heap.lt_size ho))).trans ((Heap.get?_update_ne _ _ _ _ hb).trans (Heap.get?_push_of_some _ ho))
    · exact (hs.2 x hxs).trans (Heap.get?_update_self _ hx₁ rfl)
theorem tm_ld {M : Model} {q : Str} {scope : Scope} {cd : Value} {L a : Addr} {x : Str} {pos : Pos} {v : Value} {Q : Value → Shared → Prop} {h : Heap} {g : Array GenState} {d : Drawn} {t : Nat} {os : OsState} (hn : h.Ns L m) (hv : m x = some v) (hq : Q v ⟨h, g, d, t, os⟩)
    (hk : scope.kind = .function := by rfl) (hl : (ksEnv q scope L a cd cc).kindOf x = some .local := by rfl) (hd : (x == ("__debug__" : Str)) = false := by decide) :
    wpAny M A (eval (.Name x pos) (ksEnv q scope L a cd cc)) Q E ⟨h, g, d, t, os⟩ := wpAny_Name (wpAny_loadName_local (s := ⟨h, g, d, t, os⟩) hk hl hn hv hq) hd
theorem tm_body {v : Value} {hp h₁ : Heap} {L cda : Addr} {oc ccl : Value} {od cdd : Option Addr} {osl ccs : Array (Option Value)} {doc pm ct : Value} {an : Option Addr} {vs : Array Value} {tf : Tok} {g : Array GenState} {dr : Drawn} {tk : Nat} {os : OsState} {Q : Flow → Shared → Prop} {body : List Stmt}
    (T : TmTxt K mg C fI cc) (PG : PgOk prog) (M : L2.Mod K mg base) (X0 : K.In hp) (hb1 : ∀ b o, base.get? b = some o → h₁.get? b = some o) (F1 : Fr hp L h₁ (fun y => [(("self" : Str), Value.ref (hp.objs.size + 1)), (("most" : Str), v)].reverse.lookup y))
    (N1 : News hp L h₁ [(hp.objs.size + 1, excObj C hp.objs.size none .none), (hp.objs.size, excTup [v])]) (z1 : hp.objs.size < L)
    (hfn : K.lookup fI = some ⟨oc, od, .func (ksFn "__init__" "TooMany.__init__" (L2.defArgs PLW.s_TooMany) (L2.defBody PLW.s_TooMany) (L2.defScope PLW.s_TooMany) .none .none doc pm an (.ref cda) ct cc), osl⟩)
    (hcode : K.lookup cda = some ⟨ccl, cdd, .fields vs, ccs⟩) (hvs : vs[2]? = some (.str "/claim/cut.py" tf))
    (hq : ∀ h₅ tk5 dx, Made hp h₅ (hp.objs.size + 1) C dx v → Q .next ⟨h₅, g, dr, tk5, os⟩) :
    _root_.PySem.wpAt (model prog w) A (.func body (ksEnv "TooMany.__init__" (L2.defScope PLW.s_TooMany) L fI (.ref cda) cc)) (execs (L2.defBody PLW.s_TooMany) (ksEnv "TooMany.__init__" (L2.defScope PLW.s_TooMany) L fI (.ref cda) cc)) Q E ⟨h₁, g, dr, tk, os⟩ := by
  refine ks_wpAt_execs_cons ?_
  refine ks_wpAt_Expr_any ?_
  refine ks_wpAt_MethodCall ?_
  refine tm_node (x := hp.objs.size + 1) (ar := { arg := "self", annotation := none, pos := _ }) T PG M hb1 F1 N1 (InstAt.of_exc0 (t := hp.objs.size) (c2 := .none) N1 (.head _)) hfn rfl rfl hcode hvs (by decide) (by rfl) (by rfl) (by rfl) (by rfl) (fun so h₂ F2 N2 l2 _ => ?_)
  refine kxs_method (s := ⟨h₂, g, dr, _, os⟩) kxs_OverflowError F2 X0 N2 (.head _) (InstAt.of_exc0 (t := hp.objs.size) (c2 := .none) N2 (.tail _ (.head _))) T.tp T.sup T.ovC (by decide) (fun q h₃ F3 N3 l3 => ?_)
  refine kxs_callWith1 (s := ⟨h₃, g, dr, _, os⟩) N3 (.head _) ?_
  refine spliced_more (Constant_str (spliced_none ⟨kxs_at N3 (.head _), ?_⟩))
  have d1 : so ≠ hp.objs.size + 1 := Nat.ne_of_gt (l2 (hp.objs.size + 1, _) (.head _))
  have d2 : q ≠ hp.objs.size + 1 := Nat.ne_of_gt (l3 (hp.objs.size + 1, _) (.tail _ (.head _)))
  have d3 : hp.objs.size ≠ hp.objs.size + 1 := Nat.ne_of_lt (Nat.lt_succ_self _)
  refine kxs_call (s := ⟨h₃, g, dr, _, os⟩) F3 X0 N3 F.excBase_OverflowError T.ini (.head _) (.tail d2 (.tail d1 (.head fun p hp' => by obtain rfl := List.mem_singleton.mp hp'; exact d3))) (len_one _) (fun t4 h₄ F4 N4 l4 => ?_)
  clear F1 F2 F3 N1 N2 N3 hb1 l2 l3
  show wpAt _ _ _ (execs _ _) _ _ ⟨h₄, g, dr, _, os⟩
  generalize (_ : Nat) + 1 = tk4
  refine ks_wpAt_execs_cons ?_
  refine ks_wpAt_Assign_Attr ?_
  refine wpAt_of_wpAny ?_
  refine tm_ld (x := "most") (v := v) F4.ns (by first | rfl | with_unfolding_all rfl | kernel_rfl) ?_
  show wpAny _ _ (eval (.Name "self" _) (ksEnv _ _ L fI _ _)) _ _ ⟨h₄, _, _, _, _⟩
  refine tm_ld (x := "self") (v := .ref (hp.objs.size + 1)) F4.ns (by first | rfl | with_unfolding_all rfl | kernel_rfl) ?_
  have hx4 := (N4 (hp.objs.size + 1, excObj C t4 none .none) (.tail _ (.tail _ (.tail _ (.head _))))).1
  refine set_plain (X0.keeps F4.keep) (ox := excObj C t4 none .none) (od := none) ⟨hx4, rfl, rfl, trivial⟩ T.sa ?_
  refine tm_osa T (X0.keeps F4.keep) hx4 T.noN (fun h₅ tk5 dx k5' dn dne hx5 hn5 => ?_)
  show wpAt _ _ _ (execs _ _) _ _ _
  have z5 : hp.objs.size ≤ dx := Nat.le_trans (Nat.le_of_lt (Nat.lt_of_lt_of_le z1 (Nat.le_of_lt F4.ns.lt))) dn
  exact wpAt_of_wpAny (wpAny_execs_nil (hq h₅ tk5 dx ⟨fun b o e => k5' b o (Nat.ne_of_lt (Nat.lt_succ_of_lt (Heap.lt_size e))) (F4.keep b o e), Nat.le_succ _, ⟨_, _, hx5, rfl, rfl, rfl, rfl⟩, z5, dne, hn5⟩))
/-- TooMany(v) -/
theorem tm_made {v : Value} (T : TmTxt K mg C fI cc) (PG : PgOk prog) (M : L2.Mod K mg base) (hb : ∀ b o, base.get? b = some o → s.heap.get? b = some o) (hroom : A.depth + 1 < recursionLimit)
    (hq : ∀ h' tk e d, Made s.heap h' e C d v → R (.ok (.ret (.ref e))) { s with heap := h', toks := tk }) :
    codeAny (model prog w) A (.call (.ref C) ⟨[v], []⟩) R s := by
  obtain ⟨hp, g, dr, tk, os⟩ := s
  have X : K.In hp := M.kin.keeps hb
  obtain ⟨oc, od, doc, pm, an, cda, ct, osl, ccl, cdd, vs, ccs, tf, hfn, hcd, hcode, hvs⟩ := T.fn
  obtain ⟨nm, N', qn, bs, bm, hdct, sn, sub, ab, col, dd, k0, k1, k2, k3, k5, hC, hT⟩ := excInit_of X T.ini
  obtain ⟨oI, hoI, hcI⟩ : ∃ oI, hp.get? fI = some oI ∧ oI.cls = .type "function" := by
    obtain ⟨o, ho, hc⟩ := Option.map_eq_some_iff.mp (show (K.lookup fI).map (·.cls) = some (.type "function") from beq_iff_eq.mp T.fI_)
    exact ⟨o, X _ _ ho, hc⟩
  refine PX.call_own F.excBase_OverflowError hT hC (looks_findIn X T.iC) (fun self => exc_bind hoI hcI self) (len_one v) ?_
  have k : ∀ b o, hp.get? b = some o → ((hp.push (kdv_tup [v])).push (PX.excO C hp.objs.size)).get? b = some o := fun b o e => Heap.get?_push_of_some _ (Heap.get?_push_of_some _ e)
  have e1 : ((hp.push (kdv_tup [v])).push (PX.excO C hp.objs.size)).get? (hp.objs.size + 1) = some (excObj C hp.objs.size none .none) := by heap_get
  have e0 : ((hp.push (kdv_tup [v])).push (PX.excO C hp.objs.size)).get? hp.objs.size = some (excTup [v]) := by heap_get
  generalize hh2 : (hp.push (kdv_tup [v])).push (PX.excO C hp.objs.size) = hp2 at k e1 e0
  have hlim : hp2.NoLimit := M.nolimit.keeps fun b o e => k b o (hb b o e)
  have X2 : K.In hp2 := X.keeps k
  have hcl : ∀ x ∈ (L2.defScope PLW.s_TooMany).names, x.2 ≠ .cell := by decide +kernel
  refine ks_codeAny_call_defAt (fd := ksFn "__init__" "TooMany.__init__" (L2.defArgs PLW.s_TooMany) (L2.defBody PLW.s_TooMany) (L2.defScope PLW.s_TooMany) .none .none doc pm an (.ref cda) ct cc) (body := L2.defBody PLW.s_TooMany) (binds := [("self", .ref (hp.objs.size + 1)), ("most", v)]) (by
      show A.depth + 1 < recursionLimit
      exact hroom) (X2 _ _ hfn) rfl hlim (codeRec_of X2 hcd) rfl (BindsTo.of_eq (by first | rfl | with_unfolding_all rfl)) hcl (locs rfl) (fun h₁ hns hk₁ => ?_) rfl rfl rfl
  have z1 : hp.objs.size < hp2.objs.size := Heap.lt_size e0
  have F1 : Fr hp hp2.objs.size h₁ (fun y => [(("self" : Str), Value.ref (hp.objs.size + 1)), (("most" : Str), v)].reverse.lookup y) := ⟨hns, fun b o e => hk₁ b o (k b o e), Nat.le_of_lt z1⟩
  have nn : ∀ {b : Addr}, hp.objs.size ≤ b → hp.get? b = none := fun {b} hb => by
    cases e : hp.get? b with
    | none => rfl
    | some o => exact absurd (Heap.lt_size e) (Nat.not_lt.mpr hb)
  have N1 : News hp hp2.objs.size h₁ [(hp.objs.size + 1, excObj C hp.objs.size none .none), (hp.objs.size, excTup [v])] := fun p hp' => by
    rcases List.mem_cons.mp hp' with rfl | hp'
    · exact ⟨hk₁ _ _ e1, Nat.ne_of_lt (Heap.lt_size e1), nn (Nat.le_succ _)⟩
    · obtain rfl := List.mem_singleton.mp hp'
      exact ⟨hk₁ _ _ e0, Nat.ne_of_lt z1, nn (Nat.le_refl _)⟩
  have hb1 : ∀ b o, base.get? b = some o → h₁.get? b = some o := fun b o e => hk₁ b o (k b o (hb b o e))
  refine ks_wpAt_mono (E := fun _ _ => False) (Q := fun f s' => f = .next ∧ ∃ h₅ tk5 dx, s' = ⟨h₅, g, dr, tk5, os⟩ ∧ Made hp h₅ (hp.objs.size + 1) C dx v) (tm_body T PG M X hb1 F1 N1 z1 hfn hcode hvs (fun h₅ tk5 dx m5 => ⟨rfl, h₅, tk5, dx, rfl, m5⟩)) (fun f s' h' => ?_) fun _ _ z => z.elim
  obtain ⟨rfl, h₅, tk5, dx, rfl, m5⟩ := h'
  exact ⟨rfl, hq _ _ _ _ m5⟩
end
end TMX
end PySem
end
section
set_option Elab.async false
set_option linter.all false
set_option maxRecDepth 100000
set_option maxHeartbeats 2000000
namespace PLW
open PySem PySem.Spec PyProof.Rows L2
open PySem.TMX (TmTxt PgOk)
theorem relO_most {v : V} {v' : Value} (r : RelV v v') (f : Str) : RelO (List.lookup f [(("most" : Str), v)]) (if f = "most" then some v' else none) := by
  by_cases hw : f = "most"
  · subst hw
    rw [if_pos rfl]
    have q : List.lookup ("most" : Str) [(("most" : Str), v)] = some v := by simp [List.lookup]
    rw [q]
    exact r
  · rw [if_neg hw]
    have qw : (f == ("most" : Str)) = false := by simpa using hw
    have q2 : List.lookup f [(("most" : Str), v)] = none := by simp [List.lookup, qw]
    rw [q2]
    trivial
section
variable {X : Cx} {C fI cc : Addr}
/-- TooMany(e) -/
def tMkTm (C : Addr) (ta : TA) : L2.St → Hp → XK → Prop := fun σ H Q => ta σ H fun vs H1 => ∃ v, vs = [v] ∧ ∀ d, H1 d = none → Q (.ref C) (some d) (upd H1 d (.xd [(("most" : Str), v)]))
theorem pmk_tm {a : Expr} {ta : TA} {p pos : Pos} {k : Nat} (T : TmTxt X.K X.mg C fI cc) (PG : PgOk X.prog) (hr : Room k X.A) (ha : PA X [a] ta) (hg : Gl X "TooMany" := by rfl)
    (he : starEach (a :: []) X.env = (false, eval a X.env) :: starEach [] X.env := by rfl) (hpl : (backTo pos (starEach [] X.env)).any (·.1) = false := by rfl) :
    PMk X (.Call (.Name "TooMany" p) [a] [] pos) (tMkTm C ta) := by
  intro pins s σ H Q I h
  refine wpAny_Call_Name_kw (ld_glob I hg T.gC ?_)
  refine PySem.W.callWith_K (h₀ := X.base) I.ok.mod.kin T.kC (thn (ha.run pos pins s σ H _ I h) fun us s1 hh => ?_) he hpl
  obtain ⟨vs, H1, I1, r1, v, ev, q1⟩ := hh
  subst ev
  refine ⟨I1.kIn, ?_⟩
  cases r1 with
  | cons rv rn =>
    rename_i v' us'
    cases rn
    show wpAny _ _ (call (.ref C) [v']) _ _ _
    have hbk := I1.bk
    obtain ⟨hp, g, dr, tk, os⟩ := s1
    refine wpAny_call (PySem.TMX.tm_made T PG I1.ok.mod hbk (by have := hr.dp; omega) fun h' tk' e d M => ?_)
    show MkP X pins σ Q (.ref e) ⟨h', g, dr, tk', os⟩
    obtain ⟨oe, fv, hoe, hc, hd, hdat, h1⟩ := M.obj
    have hns := M.ns
    obtain ⟨G', g1, g2⟩ := restrict h' fun b => decide (b ≠ e)
    have gk : ∀ b, b ≠ e → G'.get? b = h'.get? b := fun b hb => g1 b (decide_eq_true hb)
    have ge : G'.get? e = none := g2 e (by simp)
    have old : ∀ b o, hp.get? b = some o → G'.get? b = some o := fun b o q => (gk b (Nat.ne_of_lt (Nat.lt_of_lt_of_le (Heap.lt_size q) M.new))).trans (M.keep b o q)
    have ob : ObjOk X.prog X.w (upd H1 d (.xd [(("most" : Str), v)])) G' d (.xd [(("most" : Str), v)]) :=
      ⟨_, hns.at (fun o q => (gk d M.dne).trans q), fun f => relO_most rv f⟩
    have J : Inv X pins σ (upd H1 d (.xd [(("most" : Str), v)])) ⟨G', g, dr, tk', os⟩ := I1.laid (t' := tk') old M.dbig ob
    refine ⟨e, oe, fv, ⟨G', g, dr, tk', os⟩, _, .ref C, some d, rfl, J, fun b o q => ?_, ge, hoe, ⟨hc, hd⟩, hdat, h1, ?_, rfl, I1.bare, raises_own T.exC T.tyC, q1 d (I1.hok.fresh M.dbig)⟩
    · by_cases hb : b = e
      · have q' : G'.get? b = some o := q
        rw [hb, ge] at q'; cases q'
      · exact (gk b hb).symm.trans q
    · rw [upd_ne (Ne.symm M.dne)]
      exact I1.hok.fresh M.new
/-- raise TooMany(e) -/
def tRaiseTm (C : Addr) (W : WX) (ta : TA) : TS := fun _ σ H => tMkTm C ta σ H fun cls d H' => W cls d σ H'
theorem ps_raiseTm {a : Expr} {ta : TA} {W : WX} {p pos pos2 : Pos} {k : Nat} (hc : X.calm = true) (T : TmTxt X.K X.mg C fI cc) (PG : PgOk X.prog) (hr : Room k X.A) (tk : Takes X W) (ha : PA X [a] ta) (hg : Gl X "TooMany" := by rfl)
    (he : starEach (a :: []) X.env = (false, eval a X.env) :: starEach [] X.env := by rfl) (hpl : (backTo pos (starEach [] X.env)).any (·.1) = false := by rfl) :
    PS X (.Raise (some (.Call (.Name "TooMany" p) [a] [] pos)) none pos2) (tRaiseTm C W ta) := ps_raise hc tk (pmk_tm T PG hr ha hg he hpl)
/-- error.most, error the exception that the suite holds (at a; its class cls, its dict d) -/
def tMost (C : Addr) (a : Addr) (cls : Value) (d : Option Addr) (te : TE) : TE := fun σ H Q => te σ H fun x H1 => x = .ref a ∧ cls = .ref C ∧ ∃ (dd : Addr) (v : V), d = some dd ∧ H1 dd = some (.xd [(("most" : Str), v)]) ∧ Q v H1
theorem pe_most {a : Addr} {oe : Obj} {cls : Value} {d : Option Addr} {pn : List (Addr × Obj)} {e : Expr} {te : TE} {pos : Pos} (T : TmTxt X.K X.mg C fI cc) (hz : Zc cls d oe) (hf : ∃ vs, oe.data = .fields vs) (he : PE (X.suite a ((a, oe) :: pn)) e te)
    (hb : attributeBase e "most" X.env (eval e X.env) = eval e X.env := by rfl) :
    PE (X.suite a ((a, oe) :: pn)) (.Attribute e "most" pos) (tMost C a cls d te) := by
  refine ⟨fun pins s σ H Q I h => ?_⟩
  refine attr_of hb (thn (he.run pins s σ H _ I h) fun u s1 hh => ?_)
  obtain ⟨x, H1, I1, rx, ex, ec, dd, v, ed, ea, q⟩ := hh
  subst ex
  obtain rfl : u = Value.ref a := rx
  subst ec
  subst ed
  obtain ⟨ha, _⟩ := I1.pin (a, oe) (List.mem_append_left _ List.mem_cons_self)
  obtain ⟨vs, hd⟩ := hf
  have hx : ObjOk X.prog X.w H1 s1.heap dd (.xd [(("most" : Str), v)]) := I1.hok dd _ ea
  obtain ⟨mA, hns, hr⟩ := hx
  obtain ⟨od, ho, hl⟩ := lookIn_ns hns
  have l : List.lookup ("most" : Str) [(("most" : Str), v)] = some v := by simp [List.lookup]
  obtain ⟨u, hu, ru⟩ := RelO.some_of (v := v) (o := mA "most") (by rw [← l]; exact hr "most")
  have J : PySem.W.InstAt s1.heap a oe C (some od) := ⟨ha, hz.1, by unfold PySem.W.notCls; rw [hd] <;> rfl, by rw [hz.2]; exact ho⟩
  exact HandSPX.exc_get I1.kIn J T.ga T.gg T.exC (PySem.W.findObj_own T.hdC T.noM rfl (by rw [hl, hu])) (handed_of ru) ⟨v, H1, I1.tok _, ru, q⟩
end
end PLW
end
section
set_option Elab.async false
set_option linter.all false
set_option maxRecDepth 100000
set_option maxHeartbeats 2000000
namespace PLW
open PySem PySem.Spec PyProof.Rows L2 Evl RZ
open PL PySem.W SlX
open PySem.TMX (TmTxt PgOk)
/-! promises of the defs that raise -/
theorem psN {X : Cx} {st : Stmt} {t : TS} (h : PS X.nox st t) : PS X st t := ⟨fun pins s σ H D I hw =>
  wpAny_mono (h.run pins s σ H D (I.wish _) hw) (fun _ _ q => q.unwish) fun _ _ z => z.elim⟩
structure HasX (P : Program) (w : World) (K : PySem.W.Frag) (mg : Str → Option Value) (base : Heap) (x : Str) (ps : List Str) (k : Nat) (sp : Sp) : Prop where
  ex : ∃ fd, FnOk P w K mg base (L2.CX P w) k (He.ga K x) fd ps sp ∧ Binds K fd ps []
  kp : PySem.W.keepIn K (.ref (He.ga K x)) = true
  gl : mg x = some (.ref (He.ga K x))
theorem pe_hx {X : Cx} {x : Str} {ps : List Str} {k : Nat} {sp : Sp} {E : XK} {e : Expr} {es : List Expr} {t : TA} {p pos : Pos} (h : HasX X.prog X.w X.K X.mg X.base x ps k sp) (hr : Room k X.A) (hx : Passes (L2.CX X.prog X.w) X E) (ha : PA X (e :: es) t)
    (hg : Gl X x := by rfl) (hdb : (x == ("__debug__" : Str)) = false := by decide) (he : starEach (e :: es) X.env = (false, eval e X.env) :: starEach es X.env := by rfl) (hpl : (backTo pos (starEach es X.env)).any (·.1) = false := by rfl) :
    PE X (.Call (.Name x p) (e :: es) [] pos) (tCall sp [] E t) := by
  obtain ⟨fd, F, b⟩ := h.ex
  exact pe_call F hr hg h.gl h.kp b .nil hx ha hdb he hpl
/-- TooMany(n) leaves -/
def Gone (C : Addr) (n : Nat) (H : Hp) (E : XK) : Prop := ∀ H1 d, Ex H H1 → H1 d = none → E (.ref C) (some d) (upd H1 d (.xd [(("most" : Str), .int (n : Int))]))
theorem Gone.ex {C : Addr} {n : Nat} {H H' : Hp} {E : XK} (h : Gone C n H E) (e : Ex H H') : Gone C n H' E := fun H1 d e1 => h H1 d (e.trans e1)
section
variable {P : Program} {w : World} {K : PySem.W.Frag} {mg : Str → Option Value} {base : Heap} {CT fI cc : Addr}
theorem s_raiseTm {n : Nat} {t : TA} {σ : L2.St} {H : Hp} {E : XK} {D : Ends} (h : EvA t σ H [.int (n : Int)]) (g : Gone CT n H E) : tRaiseTm CT (fun cls d _ H => E cls d H) t D σ H :=
  h H (Ex.refl H) _ fun H1 e1 => ⟨_, rfl, fun d hd => g H1 d e1 hd⟩
theorem q_callX {sp : Sp} {t : TA} {vs : List V} {σ : L2.St} {H : Hp} {E : XK} {Q : VK} (h : EvA t σ H vs) (k : ∀ H1, Ex H H1 → sp (vs ++ []) H1 Q E) : tCall sp [] E t σ H Q := h H (Ex.refl H) _ fun H1 e => k H1 e
theorem s_retX {sp : Sp} {t : TA} {vs : List V} {σ : L2.St} {H : Hp} {E : XK} {D : Ends} (h : EvA t σ H vs) (k : ∀ H1, Ex H H1 → sp (vs ++ []) H1 (fun v H' => D.rt v H') E) : tRet (tCall sp [] E t) D σ H := q_callX h k
def sp_least_metX (K : PySem.W.Frag) (CT : Addr) : Sp := fun vs H _ E => ∃ (n : Nat) (ls : List (List Nat)) (v : V), vs = [v] ∧ rLo K n ls H v ∧ Fine n ls ∧ mt n ls 60 = false ∧ Gone CT 60 H E
theorem has_least_metX (T : Tx K mg) (C : Cl K mg) (TM : TmTxt K mg CT fI cc) (PG : PgOk P) : HasX P w K mg base "least_met" ["lot"] 205 (sp_least_metX K CT) := by
  have h_numerator_in : Has P w K mg base _ _ 204 (sp_numerator_in K) := has_numerator_in T C
  have h_greatest_degree : Has P w K mg base _ _ 1 (sp_greatest_degree K) := has_greatest_degree T C
  have h_meets : Has P w K mg base _ _ 5 (sp_meets K) := has_meets T C
  obtain ⟨_, m_MAX_DEGREE⟩ := T.i_MAX_DEGREE
  obtain ⟨fd, F⟩ := T.fn_least_met
  refine ⟨⟨fd, F.ok sc_least_met (fun vs H Q E h => ?_) (fun cdv A outer s H vs Q E hr h => ?_), F.bindsN fun _ _ _ _ _ _ us hl => match us, hl with | [_], _ => rfl⟩, F.kp, T.g_least_met⟩
  · obtain ⟨n, ls, v, rfl, _⟩ := h; rfl
  · obtain ⟨n, ls, v, rfl, hv, hf, h60, k⟩ := h
    refine ⟨_, (pss_cons (psN (ps_set (i := 1) sc_least_met.nd rfl (Or.inr rfl) (pe_fz (pe_h h_numerator_in (hr.mono (by decide)) pass0 (pa_cons (pv 0) pa_nil))))) (pss_cons (psN (ps_setLc (i := 2) (own := [("degree", 4)]) rfl sc_least_met.nd rfl rfl (sw_true rfl rfl rfl (by decide +kernel)) (pi_range2 (by rfl) T.range_ (pa_cons (pe_glob (v := .int 60) rfl m_MAX_DEGREE ⟨_, rfl⟩) (pa_cons (pe_op op_add (pe_callB (call_max2 rfl) (by rfl) T.max_ (by decide +kernel) (pa_cons (pe_glob (v := .int 60) rfl m_MAX_DEGREE ⟨_, rfl⟩) (pa_cons (pe_h h_greatest_degree (hr.mono (by decide)) pass0 (pa_cons (pv 0) pa_nil)) pa_nil))) pe_int) pa_nil))) (blkOk_by (own := [("degree", 4)]) (N := N_least_met) (sc := defScope s_least_met) (by decide +kernel)) (by intro _ _ _ _ _; refine pg_nm (i := 4) ?_ ?_ ?_ ?_; exact sc_least_met.nd; exact rfl; all_goals first | exact .inl rfl | exact .inr rfl) (fun _ _ _ _ _ => pts_nil) (by intro _ _ _ _ _; exact (pv 4)))) (pss_cons (ps_if (PT.nox (pt_not (pt_val (pe_callB (cr_all rfl) (by rfl) T.all_ (by decide +kernel) (pa_cons (pe_lc (own := [("degree", 4)]) rfl sc_least_met.nd (pi_list (pv 2)) (blkOk_by (own := [("degree", 4)]) (N := N_least_met) (sc := defScope s_least_met) (by decide +kernel)) (by intro _ _ _ _ _; refine pg_nm (i := 4) ?_ ?_ ?_ ?_; exact sc_least_met.nd; exact rfl; all_goals first | exact .inl rfl | exact .inr rfl) (fun _ _ _ _ _ => pts_nil) (by intro _ _ _ _ _; exact (pe_h h_meets (hr.mono (by decide)) pass0 (pa_cons (pv 0) (pa_cons (pv 1) (pa_cons (pv 4) pa_nil)))))) pa_nil))))) (pss_one (ps_raiseTm rfl TM PG hr (takes_of rfl rfl rfl rfl) (pa_cons (pe_glob (v := .int 60) rfl m_MAX_DEGREE ⟨_, rfl⟩) pa_nil))) pss_nil) pss_never))), ?_⟩
    refine q_asgP (Rr := fun H v => ∃ N, (Num n ls N ∧ Canon N ∧ kB N 32) ∧ rD N H v) (evp_fz (evd_call (ea_cons (ev_var rfl) ea_nil) (fun H1 e1 => ⟨n, ls, v, rfl, rLo_ex e1 hv, hf, rfl⟩))) (fun c H1 e1 ⟨N, ⟨g1, g2, g3⟩, hc⟩ => ?_)
    have hlen : N.length ≤ 1000 := by have := nd_len (canon_nd g2) g3; omega
    have hm : ∀ {σ : L2.St} {H2 : Hp} {d : Nat} {t : TE}, Ex H1 H2 → 1 ≤ d → d ≤ 99 → σ[0]? = some (some v) → σ[1]? = some (some c) → Ev t σ H2 (.int (d : Int)) → Ev (tCall (sp_meets K) [] E0 (tCons (tVar 0) (tCons (tVar 1) (tCons t tNil)))) σ H2 (.bl (mt n ls d)) := fun {σ H2 d t} e2 h1 h2 s0 s1 ht => (evp_call (ea_cons (ev_var s0) (ea_cons (ev_var s1) (ea_cons ht ea_nil))) (SpP.of fun H3 e3 => ⟨n, d, ls, N, v, c, rfl, rLo_ex ((e1.trans e2).trans e3) hv, rD_ex (e2.trans e3) hc, g1, hlen, hf.n1, hf.n4, h1, h2, rfl⟩)).ev
    refine q_asgF (R := rNat) (is := [60]) (evf_lc0 (R := rNat) (is := [60]) (S := rNat) (u := fun k => k) (ei_rng2 (lo := 60) (hi := 61) (ea_cons ev_c (ea_cons (ev_is (ev_bin (ev_max60 (b := 60) (evp_call (ea_cons (ev_var rfl) ea_nil) (SpP.of fun H2 e2 => ⟨n, ls, v, rfl, rLo_ex (e1.trans e2) hv, hf, rfl⟩))) ev_c) rfl) ea_nil)) (by omega)) rNat_stb (by decide) gm_name (fun q x H2 e2 _ hx => ⟨rfl, rfl, evp_var rfl fun H3 e3 => hx⟩)) (fun p vs H2 hp e2 h2 pd2 => ?_)
    refine q_when (b := !false) (et_not (et_test (ev_is (ev_allL (bs := [60].map (mt n ls)) (evp_lc0 (R := rNat) (is := [60]) (ei_list rNat_stb (evp_var rfl fun H3 e3 => ⟨p, vs, rfl, sq_of (e3 _ _ h2), pd2.keep rNat_stb (Kp.ex e3)⟩)) rBl_stb (by decide) gm_name (fun q x H3 e3 hq hx => ⟨rfl, rfl, EvP.of (hm (e2.trans e3) (by simp at hq; omega) (by simp at hq; omega) rfl rfl (ev_var (by rw [show x = V.int (q : Int) from hx]; rfl)))⟩))) (by rw [List.map_singleton, h60]; rfl)))) (fun _ H3 e3 => ?_) (fun z => by cases z)
    exact s_raiseTm (ea_cons ev_c ea_nil) (k.ex (((e1.trans e2).trans e3)))
def sp_met_fromX (K : PySem.W.Frag) (CT : Addr) : Sp := fun vs H _ E => ∃ (n : Nat) (ls : List (List Nat)) (v : V), vs = [v] ∧ rLo K n ls H v ∧ Fine n ls ∧ mt n ls 60 = false ∧ Gone CT 60 H E
theorem has_met_fromX (T : Tx K mg) (C : Cl K mg) (TM : TmTxt K mg CT fI cc) (PG : PgOk P) : HasX P w K mg base "met_from" ["lot"] 206 (sp_met_fromX K CT) := by
  have h_require_lot : Has P w K mg base _ _ 1 (sp_require_lot K) := has_require_lot T C
  have h_least_met : HasX P w K mg base _ _ 205 (sp_least_metX K CT) := has_least_metX T C TM PG
  obtain ⟨fd, F⟩ := T.fn_met_from
  refine ⟨⟨fd, F.ok sc_met_from (fun vs H Q E h => ?_) (fun cdv A outer s H vs Q E hr h => ?_), F.bindsN fun _ _ _ _ _ _ us hl => match us, hl with | [_], _ => rfl⟩, F.kp, T.g_met_from⟩
  · obtain ⟨n, ls, v, rfl, _⟩ := h; rfl
  · obtain ⟨n, ls, v, rfl, hv, hf, h60, k⟩ := h
    refine ⟨_, (pss_cons (psN (ps_expr (pe_h h_require_lot (hr.mono (by decide)) pass0 (pa_cons (pv 0) pa_nil)))) (pss_one (ps_ret (pe_hx h_least_met (hr.mono (by decide)) (passes_call (takes_of rfl rfl rfl rfl) fun _ _ _ _ h => h) (pa_cons (pv 0) pa_nil))))), ?_⟩
    refine q_drop (v := .non) (evp_call (ea_cons (ev_var rfl) ea_nil) (SpP.of fun H1 e1 => ⟨n, ls, v, rfl, rLo_ex e1 hv, rfl⟩)).ev (fun H1 e1 => ?_)
    exact s_retX (ea_cons (ev_var rfl) ea_nil) fun H2 e2 => ⟨n, ls, v, rfl, rLo_ex (e1.trans e2) hv, hf, h60, k.ex (e1.trans e2)⟩
end
end PLW
end
section
set_option Elab.async false
set_option linter.all false
set_option maxRecDepth 100000
set_option maxHeartbeats 2000000
namespace PLW
open PySem PySem.Spec PyProof.Rows L2 Evl RZ
open PL PySem.W SlX
open PySem.TMX (TmTxt PgOk)
section
variable {P : Program} {w : World} {K : PySem.W.Frag} {mg : Str → Option Value} {base : Heap} {CT fI cc : Addr}
theorem q_gone {te : TE} {t1 t2 : TE} {σ : L2.St} {H : Hp} {D : Ends} {g : TG} {tz : TS} (h : ∀ Q, t1 σ H Q) : tSeq (tAsg (tTup (tCons t1 (tCons t2 tNil))) g) tz D σ H := h _
def sp_members_likeX (K : PySem.W.Frag) (CT : Addr) : Sp := fun vs H _ E => ∃ (n : Nat) (ls : List (List Nat)) (v : V), vs = [v] ∧ rLo K n ls H v ∧ Fine n ls ∧ mt n ls 60 = false ∧ Gone CT 60 H E
theorem has_members_likeX (T : Tx K mg) (C : Cl K mg) (TM : TmTxt K mg CT fI cc) (PG : PgOk P) : HasX P w K mg base "members_like" ["lot"] 206 (sp_members_likeX K CT) := by
  have h_require_lot : Has P w K mg base _ _ 1 (sp_require_lot K) := has_require_lot T C
  have h_least_met : HasX P w K mg base _ _ 205 (sp_least_metX K CT) := has_least_metX T C TM PG
  have h_numerator_in : Has P w K mg base _ _ 204 (sp_numerator_in K) := has_numerator_in T C
  obtain ⟨_, m_MOST_FIRST_LETTERS⟩ := T.i_MOST_FIRST_LETTERS
  obtain ⟨_, m_MOST_MEMBERS⟩ := T.i_MOST_MEMBERS
  obtain ⟨fd, F⟩ := T.fn_members_like
  refine ⟨⟨fd, F.ok sc_members_like (fun vs H Q E h => ?_) (fun cdv A outer s H vs Q E hr h => ?_), F.bindsN fun _ _ _ _ _ _ us hl => match us, hl with | [_], _ => rfl⟩, F.kp, T.g_members_like⟩
  · obtain ⟨n, ls, v, rfl, _⟩ := h; rfl
  · obtain ⟨n, ls, v, rfl, hv, hf, h60, k⟩ := h
    refine ⟨_, (pss_cons (psN (ps_expr (pe_h h_require_lot (hr.mono (by decide)) pass0 (pa_cons (pv 0) pa_nil)))) (pss_cons (ps_if (PT.nox (pt_cmpR op_gt (pe_sl (pv 0)) (pe_glob (v := .int 4) rfl m_MOST_FIRST_LETTERS ⟨_, rfl⟩) (nomark _))) (pss_one ps_never) pss_nil) (pss_cons (ps_asg (pe_tup (pa_cons (pe_hx h_least_met (hr.mono (by decide)) (passes_call (takes_of rfl rfl rfl rfl) fun _ _ _ _ h => h) (pa_cons (pv 0) pa_nil)) (pa_cons (pe_fz (pe_h h_numerator_in (hr.mono (by decide)) pass0 (pa_cons (pv 0) pa_nil))) pa_nil))) (pg_tup rfl (pgs_cons (pg_name (i := 1) sc_members_like.nd rfl (Or.inl rfl)) (pgs_cons (pg_name (i := 2) sc_members_like.nd rfl (Or.inr rfl)) pgs_nil)))) pss_never))), ?_⟩
    have n4 := hf.n4
    refine q_drop (v := .non) (evp_call (ea_cons (ev_var rfl) ea_nil) (SpP.of fun H1 e1 => ⟨n, ls, v, rfl, rLo_ex e1 hv, rfl⟩)).ev (fun H1 e1 => ?_)
    refine q_when (b := false) (et_is (et_test (ev_cmp (ev_letters C (evp_var (R := rLot K n (rTs K (rW K) ls)) rfl fun H2 e2 => rLo_ex (e1.trans e2) hv)) ev_c)) (decide_eq_false (by omega))) (fun z => by cases z) (fun _ H2 e2 => ?_)
    have e12 := e1.trans e2
    exact q_callX (sp := sp_least_metX K CT) (E := E) (ea_cons (ev_var (i := 0) (v := v) rfl) ea_nil) fun H3 e3 => ⟨n, ls, v, rfl, rLo_ex (e12.trans e3) hv, hf, h60, k.ex (e12.trans e3)⟩
def sp_is_first_lotX (K : PySem.W.Frag) (CT : Addr) : Sp := fun vs H _ E => ∃ (n : Nat) (ls : List (List Nat)) (v : V), vs = [v] ∧ rLo K n ls H v ∧ Fine n ls ∧ mt n ls 60 = false ∧ Gone CT 60 H E
theorem has_is_first_lotX (T : Tx K mg) (C : Cl K mg) (TM : TmTxt K mg CT fI cc) (PG : PgOk P) : HasX P w K mg base "is_first_lot" ["lot"] 207 (sp_is_first_lotX K CT) := by
  have h_members_like : HasX P w K mg base _ _ 206 (sp_members_likeX K CT) := has_members_likeX T C TM PG
  obtain ⟨fd, F⟩ := T.fn_is_first_lot
  refine ⟨⟨fd, F.ok sc_is_first_lot (fun vs H Q E h => ?_) (fun cdv A outer s H vs Q E hr h => ?_), F.bindsN fun _ _ _ _ _ _ us hl => match us, hl with | [_], _ => rfl⟩, F.kp, T.g_is_first_lot⟩
  · obtain ⟨n, ls, v, rfl, _⟩ := h; rfl
  · obtain ⟨n, ls, v, rfl, hv, hf, h60, k⟩ := h
    refine ⟨_, (pss_one (ps_ret (pe_cmpR (op_eqD hr.units) (pe_tupleOf (by rfl) T.tuple_ (pe_callB (cr_sortW hr.units) (by rfl) T.sorted_ (by decide +kernel) (pa_cons (pe_hx h_members_like (hr.mono (by decide)) (passes_call (takes_of rfl rfl rfl rfl) fun _ _ _ _ h => h) (pa_cons (pv 0) pa_nil)) pa_nil))) (pe_sl (pv 0)) (nomark _)))), ?_⟩
    exact q_callX (sp := sp_members_likeX K CT) (E := E) (ea_cons (ev_var (i := 0) (v := v) rfl) ea_nil) fun H3 e3 => ⟨n, ls, v, rfl, rLo_ex e3 hv, hf, h60, k.ex e3⟩
def sp_first_lot_likeX (K : PySem.W.Frag) (CT : Addr) : Sp := fun vs H _ E => ∃ (n f : Nat) (ls : List (List Nat)) (v : V), vs = [v] ∧ rLo K n ls H v ∧ Fine n ls ∧ Ok0 n ls ∧ mt n ls 60 = true ∧ Down (mt n ls) f ∧ 24 < (frs n ls f).length ∧ Gone CT 24 H E
theorem has_first_lot_likeX (T : Tx K mg) (C : Cl K mg) (TM : TmTxt K mg CT fI cc) (PG : PgOk P) : HasX P w K mg base "first_lot_like" ["lot"] 207 (sp_first_lot_likeX K CT) := by
  have h_members_like : Has P w K mg base _ _ 206 (sp_members_like K) := has_members_like T C
  obtain ⟨_, m_MOST_EXPONENT⟩ := T.i_MOST_EXPONENT
  obtain ⟨_, m_MOST_MEMBERS⟩ := T.i_MOST_MEMBERS
  obtain ⟨fd, F⟩ := T.fn_first_lot_like
  refine ⟨⟨fd, F.ok sc_first_lot_like (fun vs H Q E h => ?_) (fun cdv A outer s H vs Q E hr h => ?_), F.bindsN fun _ _ _ _ _ _ us hl => match us, hl with | [_], _ => rfl⟩, F.kp, T.g_first_lot_like⟩
  · obtain ⟨n, f, ls, v, rfl, _⟩ := h; rfl
  · obtain ⟨n, f, ls, v, rfl, hv, hf, h0, h60, hdn, hl24, k⟩ := h
    refine ⟨_, (pss_cons (psN (ps_set (i := 1) sc_first_lot_like.nd rfl (Or.inl rfl) (pe_h h_members_like (hr.mono (by decide)) pass0 (pa_cons (pv 0) pa_nil)))) (pss_cons (ps_if (PT.nox (pt_cmpR op_gt (pe_callB call_len_seq (by rfl) T.len_ (by decide +kernel) (pa_cons (pv 1) pa_nil)) (pe_glob (v := .int 24) rfl m_MOST_MEMBERS ⟨_, rfl⟩) (nomark _))) (pss_one (ps_raiseTm rfl TM PG hr (takes_of rfl rfl rfl rfl) (pa_cons (pe_glob (v := .int 24) rfl m_MOST_MEMBERS ⟨_, rfl⟩) pa_nil))) pss_nil) pss_never)), ?_⟩
    refine q_asgP (Rr := rL K rWh (frs n ls f)) ((evp_call (ea_cons (ev_var rfl) ea_nil) (SpP.of fun H1 e1 => ⟨n, ls, v, rfl, rLo_ex e1 hv, hf, h0, h60, rfl⟩)).imp fun H1 u ⟨f', hdn', hu⟩ => by rw [hdn.uniq hdn']; exact hu) (fun u H1 e1 ⟨p, us, eu, hp, pd⟩ => ?_)
    subst eu
    refine q_when (b := true) (et_is (et_test (ev_cmp (ev_lenL (ev_var rfl) hp) ev_c)) (decide_eq_true (by rw [pd.1]; omega))) (fun _ H2 e2 => ?_) (fun z => by cases z)
    exact s_raiseTm (ea_cons ev_c ea_nil) (k.ex (e1.trans e2))
end
end PLW
end
section
set_option Elab.async false
set_option linter.all false
set_option maxRecDepth 100000
set_option maxHeartbeats 2000000
namespace PLW
open PySem PySem.Spec PyProof.Rows L2 Evl RZ
open PL PySem.W SlX
open PySem.TMX (TmTxt PgOk)
open LamX (GivesTo CodeO)
/-- told, where the call lets TooMany out: ("many", its field) -/
def TMany (CT : Addr) : (XK → Hp → VK → Prop) → Hp → VK → Prop := fun tl H Q =>
  ∀ Q', tl (fun cls d H' => cls = .ref CT ∧ ∃ dd v, d = some dd ∧ H' dd = some (.xd [(("most" : Str), v)]) ∧ ∀ p, H' p = none → Q (.ref p) (upd H' p (.tup [.str "many", v]))) H Q'
section
variable {X : Cx} {CT fI cc : Addr}
abbrev N_law_told : List Str := ["_law_call", "error"]
theorem sc_law_told : FnScope N_law_told ["_law_call"] (defScope s_law_told) := ⟨rfl, rfl, rfl, by decide +kernel, rfl, by decide +kernel, by decide +kernel⟩
theorem takes_len {X : Cx} {W : WX} (tk : Takes X W) : Takes X (fun cls d σ H => σ.length = X.N.length → W cls d σ H) := fun u s' ⟨a, B, sI, pins, σ, H, cls, d, e, I, nb, up, sky, na, os, ag, w⟩ =>
  tk u s' ⟨a, B, sI, pins, σ, H, cls, d, e, I, nb, up, sky, na, os, ag, w I.len⟩
theorem many_gives (T : TmTxt X.K X.mg CT fI cc) {g : Addr} {cdg : Value} {q : Str} : GivesTo X N_law_told "_law_told" (defScope s_law_told) g cdg (defBody s_law_told) "_law_call" q (TMany CT) := by
  intro f c' s H Q tl act hc h
  have hgl : Gl (cxOf C8.CX0 X.prog X.w X.K X.mg X.base N_law_told "_law_told" (defScope s_law_told) g cdg X.A X.stack s H C8.E0).nox "TooMany" := by rfl
  refine ⟨_, pss_one (ps_try_as (X := (cxOf C8.CX0 X.prog X.w X.K X.mg X.base N_law_told "_law_told" (defScope s_law_told) g cdg X.A X.stack s H C8.E0).nox) (c := .ref CT) (i := 1) (Wout := fun _ _ _ _ => False)
      (tb := fun W D σ H => ∃ Ech : XK, (∀ cls d σ' H', Ech cls d H' → σ'.length = 2 → W cls d σ' H') ∧ σ[0]? = some (some (.ref f)) ∧ H c' = some (CodeO c' q) ∧ ∀ Q', tl Ech H Q')
      (ts := fun a cls d => tRet (tTup (tCons (tC (.str "many")) (tCons (tMost CT a cls d (tVar 1)) tNil))))
      rfl rfl sc_law_told.nd rfl rfl ⟨hgl, by decide, .inl T.gC⟩ LamX.takes0 (fun W pn xe tk _ => ?_) (fun a oe cls d pn hz hf => pss_one (ps_ret (pe_tup (pa_cons pe_str (pa_cons (pe_most (X := (cxOf C8.CX0 X.prog X.w X.K X.mg X.base N_law_told "_law_told" (defScope s_law_told) g cdg X.A X.stack s H C8.E0).nox) T hz hf (pv 1)) pa_nil)))))), ?_⟩
  · refine ⟨fun pins s' σ H' D I h' => ?_⟩
    obtain ⟨Ech, hW, h1, h2, h3⟩ := h'
    refine PSs.run (t := tRet (tTup (tCons (tC (.str "told")) (tCons (fun σZ HZ Q => σZ[0]? = some (some (.ref f)) ∧ HZ c' = some (CodeO c' q) ∧ tl Ech HZ Q) tNil)))) ?_ pins s' σ H' D I ⟨h1, h2, h3 _⟩
    exact pss_one (ps_ret (pe_tup (pa_cons pe_str (pa_cons (act _ pn xe Ech _ _ (takes_len tk) hW) pa_nil))))
  · refine ⟨_, fun cls d σ' H' ⟨ec, dd, v, ed, hd, hk⟩ hl2 => ⟨true, by rw [ec]; exact T.te, fun _ a ha => ?_, fun z => by cases z⟩, rfl, hc, h⟩
    obtain ⟨x0, x1, rfl⟩ : ∃ x0 x1, σ' = [x0, x1] := by
      match σ', hl2 with
      | [x0, x1], _ => exact ⟨x0, x1, rfl⟩
    exact ⟨_, rfl, rfl, ec, dd, v, ed, hd, sz_of (show 2 ≤ 100000 by decide), fun p hp => hk p hp⟩
end
end PLW
end
section
set_option Elab.async false
set_option linter.all false
set_option maxRecDepth 100000
set_option maxHeartbeats 2000000
namespace PLW
open PySem PySem.Spec PyProof.Rows L2 Evl RZ
open PL PySem.W SlX
/-! lot.members, lot == lot -/
/-- what the top has written of the two -/
structure ClM (K : PySem.W.Frag) : Prop where
  at_ : PySem.W.findIn K (.ref (CL K)) "members" = some (some (.ref (aM K)))
  get : PySem.W.specialIn K (.ref (aM K)) "__get__" = some (some (.builtin "property.__get__"))
  tk : PySem.W.takesIn K (.ref (aM K)) = some true
  rc : ∃ rest, PySem.W.recIn K (aM K) "property" = some (.ref (gM K) :: rest)
  fM : ∃ fd, FunD K "members" "Lot.members" (defArgs s_Lot_members) (defBody s_Lot_members) (defScope s_Lot_members) [] [] (gM K) fd
  eq_ : PySem.W.findIn K (.ref (CL K)) "__eq__" = some (some (.ref (gE K)))
  fn : PySem.W.isFn K (.ref (gE K)) = true
  nf : PySem.W.notFirst K (CL K) (.ref (CL K)) = true
  fE : ∃ fd, FunD K "__eq__" "Lot.__eq__" (defArgs s_Lot_eq) (defBody s_Lot_eq) (defScope s_Lot_eq) [] [] (gE K) fd
section
variable {P : Program} {w : World} {K : PySem.W.Frag} {mg : Str → Option Value} {base : Heap}
def sp_Lot_members (K : PySem.W.Frag) : Sp := spR fun vs H R => ∃ (n : Nat) (v : V), vs = [v] ∧ Stb R ∧ rLot K n R H v
abbrev N_Lot_members : List Str := ["self"]
theorem sc_Lot_members : FnScope N_Lot_members ["self"] (defScope s_Lot_members) := ⟨rfl, rfl, rfl, by decide +kernel, rfl, by decide +kernel, by decide +kernel⟩
theorem fnr_members (C : Cl K mg) (M : ClM K) : FnR P w K mg base CX0 1 (gM K) (sp_Lot_members K) := by
  obtain ⟨fd, F⟩ := M.fM
  have G : FnOk P w K mg base CX0 1 (gM K) fd ["self"] (sp_Lot_members K) := F.ok sc_Lot_members (fun vs H Q E h => by
    obtain ⟨R, ⟨n, v, rfl, _⟩, _⟩ := h; rfl) (fun cdv A outer s H vs Q E hr h => by
    obtain ⟨R, ⟨n, v, rfl, hs, hv⟩, k⟩ := h
    refine ⟨_, PSs.nox (pss_one (ps_ret (pe_sl (pv 0)))), ?_⟩
    exact s_retP (evp_members C (evp_var (R := rLot K n R) rfl fun H1 e1 => rLot_ex (R := R) hs e1 hv)) (fun u H1 e1 hu => k u H1 e1 hu))
  refine (G.raw (F.bindsN fun _ _ _ _ _ _ us hl => match us, hl with | [_], _ => rfl) .nil).imp fun vs H Q E h => ?_
  rw [List.append_nil]; exact h
def sp_Lot_eq (K : PySem.W.Frag) : Sp := spR fun vs H R => ∃ (n : Nat) (ls ms : List (List Nat)) (v u : V), vs = [v, u] ∧ rLo K n ls H v ∧ rLo K n ms H u ∧ R = fun _ x => x = .bl (decide (ls = ms))
abbrev N_Lot_eq : List Str := ["self", "other"]
theorem sc_Lot_eq : FnScope N_Lot_eq ["self", "other"] (defScope s_Lot_eq) := ⟨rfl, rfl, rfl, by decide +kernel, rfl, by decide +kernel, by decide +kernel⟩
theorem fnr_eq (T : Tx K mg) (C : Cl K mg) (M : ClM K) : FnR P w K mg base CX0 1 (gE K) (sp_Lot_eq K) := by
  obtain ⟨fd, F⟩ := M.fE
  have G : FnOk P w K mg base CX0 1 (gE K) fd ["self", "other"] (sp_Lot_eq K) := F.ok sc_Lot_eq (fun vs H Q E h => by
    obtain ⟨R, ⟨n, ls, ms, v, u, rfl, _⟩, _⟩ := h; rfl) (fun cdv A outer s H vs Q E hr h => by
    obtain ⟨R, ⟨n, ls, ms, v, u, rfl, hv, hu, rfl⟩, k⟩ := h
    refine ⟨_, PSs.nox (pss_cons (ps_if (pt_not (pt_val (pe_callB (call_isiSl (.ref (CL K))) (by rfl) T.isinstance_ (by decide +kernel) (pa_cons (pv 1) (pa_cons (pe_glob (v := .ref (CL K)) rfl C.lotG rfl) pa_nil))))) (pss_one (ps_ret pe_bl)) pss_nil) (pss_one (ps_ret (pe_and (pe_cmpR op_eq (pe_sl (pv 0)) (pe_sl (pv 1)) (nomark _)) (pe_one (pe_cmpR (op_eqD hr.units) (pe_sl (pv 0)) (pe_sl (pv 1)) (nomark _))))))), ?_⟩
    have a0 : ∀ {H1 H2 : Hp}, Ex H H1 → EvP (tVar 0) [some v, some u] H1 (rLot K n (rTs K (rW K) ls)) := fun {H1 _} e1 => evp_var rfl fun H2 e2 => rLo_ex (e1.trans e2) hv
    have a1 : ∀ {H1 H2 : Hp}, Ex H H1 → EvP (tVar 1) [some v, some u] H1 (rLot K n (rTs K (rW K) ms)) := fun {H1 _} e1 => evp_var rfl fun H2 e2 => rLo_ex (e1.trans e2) hu
    refine q_when (b := !true) (et_not (et_test (ev_isiLot C (a1 (H2 := H) (Ex.refl H))))) (fun z => by cases z) (fun _ H1 e1 => ?_)
    refine s_ret (v := .bl (decide (ls = ms))) (ev_is (ev_andV (a := true) (ev_is (ev_eqI (ev_letters C (a0 (H2 := H) e1)) (ev_letters C (a1 (H2 := H) e1))) (by simp)) fun _ => ev_eqD (d := .tuple (ls.map encW)) (e := .tuple (ms.map encW)) ((evp_members C (a0 (H2 := H) e1)).imp fun H2 x hx => dp_T hx) ((evp_members C (a1 (H2 := H) e1)).imp fun H2 x hx => dp_T hx) (sh_T _) (sh_T _)) (by rw [PyData.eqv, eqvA_W]; rfl)) (fun H2 e2 => k _ H2 (e1.trans e2) rfl))
  refine (G.raw (F.bindsN fun _ _ _ _ _ _ us hl => match us, hl with | [_, _], _ => rfl) .nil).imp fun vs H Q E h => ?_
  rw [List.append_nil]; exact h
end
end PLW
end
section
set_option Elab.async false
set_option linter.all false
set_option maxRecDepth 100000
set_option maxHeartbeats 2000000
namespace PLW
open PySem PySem.Spec PyProof.Rows L2 Evl RZ
open PL PySem.W SlX
open PySem.TMX (TmTxt PgOk)
section
variable {K : PySem.W.Frag} {mg : Str → Option Value} {σ : L2.St} {H H' : Hp} {ta tb te : TE} {n : Nat} {R : Rl}
theorem evp_prop (hs : Stb R) (h : EvP te σ H (rLot K n R)) : EvP (tPropSl (CL K) (sp_Lot_members K) E0 te) σ H R := fun H1 e Q q =>
  h H1 e _ fun v H2 e2 ⟨a, dx, m, ev, h1, h2⟩ => ⟨a, dx, _, ev, h1, R, ⟨n, .ref a, rfl, hs, a, dx, m, rfl, h1, h2⟩, fun u H3 e3 hu => q u H3 (e2.trans e3) hu⟩
theorem ev_lotEq (M : ClM K) {ls ms : List (List Nat)} (ha : EvP ta σ H (rLo K n ls)) (hb : EvP tb σ H (rLo K n ms)) : Ev (tOp (rOwn K (CL K) (sp_Lot_eq K) E0) ta tb) σ H (.bl (decide (ls = ms))) := fun H1 e Q q =>
  ha H1 e _ fun v H2 e2 hv => hb H2 (e.trans e2) _ fun u H3 e3 hu => by
    have hv3 := rLo_ex e3 hv
    obtain ⟨a, dx, m, rfl, h1, h2⟩ := hv3
    obtain ⟨b, dy, m', rfl, h3, h4⟩ := hu
    exact ⟨a, dx, _, b, CL K, dy, _, rfl, rfl, h1, h3, M.nf, _, ⟨n, ls, ms, _, _, rfl, ⟨a, dx, m, rfl, h1, h2⟩, ⟨b, dy, m', rfl, h3, h4⟩, rfl⟩, fun x H4 e4 hx => by rw [hx]; exact q H4 ((e2.trans e3).trans e4)⟩
end
section
variable {X : Cx}
theorem pe_members (C : Cl X.K X.mg) (M : ClM X.K) {e : Expr} {te : TE} {pos : Pos} (he : PE X e te) (hr : Room 2 X.A) (hb : attributeBase e "members" X.env (eval e X.env) = eval e X.env := by rfl) : PE X (.Attribute e "members" pos) (tPropSl (CL X.K) (sp_Lot_members X.K) E0 te) :=
  pe_propSl he C.sL M.at_ M.get M.tk M.rc (fnr_members C M) hr (fun _ _ _ _ h => h) hb
theorem op_lotEq (T : Tx X.K X.mg) (C : Cl X.K X.mg) (M : ClM X.K) (hr : Room 1 X.A) : OpR X (compareOp .Eq) (rOwn X.K (CL X.K) (sp_Lot_eq X.K) E0) :=
  op_own (fun _ _ => rfl) M.eq_ M.fn (fnr_eq T C M) hr pass0
end
end PLW
end
section
set_option Elab.async false
set_option linter.all false
set_option maxRecDepth 100000
set_option maxHeartbeats 2000000
namespace PLW
open PySem PySem.Spec PyProof.Rows L2 Evl RZ
open PL PySem.W SlX
open PySem.TMX (TmTxt PgOk)
open LamX (TabB LamS tLam lamEnv lamCx)
section
variable {X : Cx} {CT fI cc : Addr}
/-- _law_told(lambda: body), the body's call lets TooMany out -/
theorem pe_told {T : List (Addr × Str)} {c P : Addr} {k : Nat} {params : Arguments} {body : Expr} {scope : Scope} {t : XK → TE} {p lpos pos : Pos} (TX : Tx X.K X.mg) (TM : TmTxt X.K X.mg CT fI cc) (TB : TabB X.base X.mg c P) (hcode : X.env.code = .ref c)
    (hmT : (P, X.env.qual ++ "<lambda>") ∈ T) (hu : ∀ p ∈ T, p.1 = P → p.2 = X.env.qual ++ "<lambda>") (hr : Room (k + 2) X.A) (L : LamS X.env.scope scope) (hdef : defaultsOf params X.env = ([], []))
    (hbind : ∀ (q : Str) (cl : List (Str × Addr)) (pm cv ctv : Value), bindArgs (PySem.W.kla_fn "<lambda>" q params body scope cl pm cv ctv) ⟨[], []⟩ = pure [])
    (hbody : ∀ (A : Around) (outer : List Env) (s : Shared) (H : Hp) (E : XK) (f c' : Addr), Room k (A.deeper (lamEnv X scope s.heap.objs.size f c')) → PE (lamCx X A outer s H E scope f c') body (t E))
    (hg : Gl X "_law_told" := by rfl) : PE X (.Call (.Name "_law_told" p) [.Lambda params body scope lpos] [] pos) (tLam T (TMany CT) t) := by
  obtain ⟨fd, F⟩ := TX.fn_law_told
  have hb : Binds X.K fd ["_law_call"] [] := F.bindsN fun _ _ _ _ _ _ us hl => match us, hl with | [_], _ => rfl
  have hk := F.kp
  obtain ⟨oc, od, dV, kV, doc, pm, an, cdv, ct, osl, rfl, lk, hcd, _, _⟩ := F.ex
  exact LamX.pe_lamcall hg TX.g_law_told hk lk hcd hb sc_law_told rfl (by exact .inl rfl) (many_gives TM) TB hcode hmT hu hr L hdef hbind hbody
end
end PLW
end
section
set_option Elab.async false
set_option linter.all false
set_option maxRecDepth 100000
set_option maxHeartbeats 2000000
namespace PLW
open PySem PySem.Spec PyProof.Rows L2 Evl RZ
open PL PySem.W SlX
open PySem.TMX (TmTxt PgOk)
open LamX (TabB LamS tLam lamEnv lamCx Tabs ExtN)
section
variable {K : PySem.W.Frag} {CT : Addr} {σ : L2.St} {H H' : Hp}
theorem extN_ex {H H1 H2 : Hp} (a : ExtN H H1) (e : Ex H1 H2) : ExtN H H2 := a.trans (ExtN.of e)
theorem extN_kp {H H' : Hp} (e : ExtN H H') : Kp H H' := fun b u =>
  ⟨fun h => h.elim (fun h => .inl (e _ _ h fun _ z => by cases z)) fun ⟨q, h⟩ => .inr ⟨q, e _ _ h fun _ z => by cases z⟩, fun h => e _ _ h fun _ z => by cases z⟩
theorem rLo_ext {n : Nat} {ls : List (List Nat)} {v : V} (e : ExtN H H') (h : rLo K n ls H v) : rLo K n ls H' v := by
  obtain ⟨a, dx, m, ev, h1, h2⟩ := h
  refine ⟨a, dx, m, ev, ?_, rTs_stb (rW_stb K) (extN_kp e) h2⟩
  rcases h1 with ⟨h3, h4⟩ | ⟨h3, h4⟩
  · exact .inl ⟨e _ _ h3 (fun _ z => by cases z), h4⟩
  · exact .inr ⟨e _ _ h3 (fun _ z => by cases z), e _ _ h4 (fun _ z => by cases z)⟩
/-- _law_told(lambda: ..), told of the call within -/
theorem r_told {T : List (Addr × Str)} {t : XK → TE} {n : Nat} {Q : VK} (hT : Tabs T H) (h : ∀ H1 E, ExtN H H1 → Gone CT n H1 E → ∀ Q', t E σ H1 Q') (k : ∀ H1 p, ExtN H H1 → Tabs T H1 → H1 p = some (.tup [.str "many", .int (n : Int)]) → Q (.ref p) H1) : tLam T (TMany CT) t σ H Q :=
  ⟨hT, fun H1 e1 T1 Q' => h H1 _ e1 (fun H2 d e2 hd => ⟨rfl, d, _, rfl, upd_same, fun p hp => by
    have e3 : Ex H1 (upd (upd H2 d (.xd [(("most" : Str), V.int (n : Int))])) p (.tup [.str "many", .int (n : Int)])) := (e2.trans (Ex.new hd)).trans (Ex.new hp)
    exact k _ p (extN_ex e1 e3) (T1.ext e3) upd_same⟩) Q'⟩
/-- the two told ones compared -/
theorem dp_many {n : Nat} {v : V} {p : Addr} (hv : v = .ref p) (h : SqT K H p [.str "many", .int (n : Int)]) : Dp K H v (.tuple [.str "many", .int (n : Int)]) := by
  subst hv
  exact .tup h (.cons (.str _) (.cons (.int _) .nil))
end
end PLW
end
section
set_option Elab.async false
set_option linter.all false
set_option maxRecDepth 100000
set_option maxHeartbeats 1000000
namespace PLW
open PL
/-! the first lot's law -/
theorem fine_sum {n : Nat} {ls : List (List Nat)} (hf : Fine n ls) : ∀ x ∈ ls, x.sum ≤ 32 := fun x hx => by
  have h1 := low_sum (hf.len x hx).1 (hf.len x hx).2
  have := hf.n4
  omega
theorem go_met {n : Nat} {ls : List (List Nat)} (hf : Fine n ls) {f : Nat} (hd : Down (mt n ls) f) : ∀ d, f ≤ d → met n ls d := by
  intro d
  induction d with
  | zero => intro h; have := hd.f1; omega
  | succ d ih =>
    intro h
    by_cases c : d + 1 ≤ 60
    · exact mt_iff.mp (hd.all _ h c)
    · have h60 := hd.f60
      exact met_on hf.n1 hf.n4 (fun x hx => (hf.len x hx).1) (by omega) (fun x hx => by have := fine_sum hf x hx; omega) (ih (by omega))
theorem go_on {n : Nat} {ls : List (List Nat)} (hf : Fine n ls) {f : Nat} (hd : Down (mt n ls) f) : ∀ d, f ≤ d → iA n ls (d + 1) = F n (iA n ls d) := fun d h => by
  have h1 := go_met hf hd d h
  have h2 := hf.n1
  have h3 := hf.n4
  have h4 := hd.f1
  obtain ⟨k, rfl⟩ : ∃ k, n = k + 1 := ⟨n - 1, by omega⟩
  obtain ⟨e, rfl⟩ : ∃ e, d = e + 1 := ⟨d - 1, by omega⟩
  exact (met_iff (by omega) _ _).mp h1
theorem words_nodup (n d : Nat) : (words n d).Nodup := by
  refine List.pairwise_iff_getElem.mpr fun i j h1 h2 h3 e => ?_
  have a := (words_at _ _ _ _ (List.getElem?_eq_getElem h1)).2.2
  have b := (words_at _ _ _ _ (List.getElem?_eq_getElem h2)).2.2
  rw [e] at a
  omega
theorem due_nodup {n : Nat} (hn : n ≤ 4) {a : Nat → Nat} (G : Grows n a) (l : Nat) : (due n a l).Nodup := by
  induction l with
  | zero => exact List.nodup_nil
  | succ l ih =>
    rw [due, List.nodup_append]
    refine ⟨ih, ?_, fun x hx y hy e => ?_⟩
    · unfold dueAt
      exact (((List.drop_sublist _ _).trans (List.take_sublist _ _)).nodup (words_nodup _ _))
    · subst e
      have h1 := (mem_due.mp hx).2.2.1
      have h2 := (mem_dueAt.mp hy).2.1
      omega
/-- the first words due, sorted, are least among themselves -/
theorem due_least {n : Nat} (hn : n ≤ 4) {a : Nat → Nat} (G : Grows n a) {l : Nat} {so : List (List Nat)} (hp : so.Perm (due n a l)) (ha : so.Pairwise leW) : Least (due n a l) so :=
  ⟨ha, hp.nodup_iff.mpr (due_nodup hn G l), fun x => by
    rw [hp.mem_iff]
    exact ⟨fun h => ⟨h, fun y hy hd => due_apart hn G hy h hd⟩, fun h => h.1⟩⟩
/-- what the lot made of them is -/
structure FirstLot (n : Nat) (ls : List (List Nat)) (f : Nat) (ms : List (List Nat)) : Prop where
  iA_ : ∀ d, iA n ms d = iA n ls d
  fine : Fine n ms
  ok : Ok0 n ms
  no : ¬ isA n ms
  mt_ : mt n ms = mt n ls
theorem first_lot {n : Nat} {ls : List (List Nat)} (hf : Fine n ls) (hs : ∀ x ∈ ls, 0 < x.sum) {f : Nat} (hd : Down (mt n ls) f) (h7 : f ≤ 7) {ms : List (List Nat)} (hp : ms.Perm (due n (iA n ls) f)) (ha : ms.Pairwise leW) (h24 : (due n (iA n ls) f).length ≤ 24) : FirstLot n ls f ms := by
  have hn := hf.n4
  have G := grows hn (fun x hx => (hf.len x hx).1) hs
  have hl := due_least hn G hp ha
  have hsub : ∀ x ∈ ms, x ∈ due n (iA n ls) f := fun x hx => ((hl.mem x).mp hx).1
  have hiA : ∀ d, iA n ms d = iA n ls d := fun d => by
    have h1 := due_iA hn G (l := f) (fun d h => go_on hf hd d h) d
    have h2 := left_same (least_same (n := n) (fun x hx => (mem_due.mp hx).1) hl) d
    have h3 := left_iA n ms d
    have h4 := left_iA n (due n (iA n ls) f) d
    omega
  have hpos : ∀ x ∈ ms, 0 < x.sum := fun x hx => (mem_due.mp (hsub x hx)).2.1
  have hlen : ms.length ≤ 24 := by rw [hp.length_eq]; exact h24
  have hleft : ∀ d, left n ms d = left n ls d := fun d => by
    have h3 := left_iA n ms d
    have h4 := left_iA n ls d
    have := hiA d
    omega
  refine ⟨hiA, ⟨hf.n1, hn, fun x hx => ?_, hlen, ?_⟩, .inr hpos, fun z => ?_, ?_⟩
  · have h1 := mem_due.mp (hsub x hx)
    exact ⟨h1.1, fun k hk => by have := mem_le_sum hk; omega⟩
  · have : ∀ l : List (List Nat), (∀ x ∈ l, x.sum ≤ 7) → sumsW l ≤ 7 * l.length := fun l => by
      induction l with
      | nil => intro _; simp [sumsW]
      | cons a l ih =>
        intro h
        have h1 := h a (by simp)
        have h2 := ih fun x hx => h x (by simp [hx])
        simp only [sumsW, List.map_cons, List.sum_cons, List.length_cons] at h2 ⊢
        omega
    have h1 := this ms fun x hx => by have := (mem_due.mp (hsub x hx)).2.2.1; omega
    omega
  · have h1 := hpos (List.replicate n 0) (by rw [show ms = _ from z]; exact .head _)
    simp at h1
  · funext d
    unfold mt
    rw [hleft, hleft]
end PLW
end
section
set_option Elab.async false
set_option linter.all false
set_option maxRecDepth 100000
set_option maxHeartbeats 1000000
namespace PLW
open PL
theorem frs_due {n : Nat} {ls : List (List Nat)} {f : Nat} (h : ¬ isA n ls) (h24 : (due n (iA n ls) f).length ≤ 25) : frs n ls f = due n (iA n ls) f := by
  unfold frs
  rw [if_neg h, List.take_of_length_le h24]
theorem perm_asc : ∀ {a b : List (List Nat)}, a.Perm b → a.Pairwise leW → b.Pairwise leW → a = b
  | [], b, h, _, _ => (List.Perm.nil_eq h)
  | x :: a, [], h, _, _ => by have := h.length_eq; simp at this
  | x :: a, y :: b, h, h1, h2 => by
    rw [List.pairwise_cons] at h1 h2
    have e : x = y := by
      have hx : x ∈ y :: b := h.mem_iff.mp (.head _)
      have hy : y ∈ x :: a := h.mem_iff.mpr (.head _)
      rcases List.mem_cons.mp hx with e | hx
      · exact e
      · rcases List.mem_cons.mp hy with e | hy
        · exact e.symm
        · exact leW_anti (h1.1 _ hy) (h2.1 _ hx)
    subst e
    rw [perm_asc ((List.perm_cons x).mp h) h1.2 h2.2]
/-- the first test of the two -/
theorem test_same {n : Nat} {ls so s2 s3 : List (List Nat)} {f : Nat} (hl : ls.Pairwise leW) (h9 : ls.length ≤ 9) (h1 : so.Perm (frs n ls f)) (a1 : so.Pairwise leW) (h2 : s2.Perm (duL n ls f)) (a2 : s2.Pairwise leW) (h3 : s3.Perm ls) (a3 : s3.Pairwise leW) : decide (so = ls) = decide (s2 = s3) := by
  rw [perm_asc h3 a3 hl]
  by_cases c : isA n ls
  · have e1 : frs n ls f = [List.replicate n 0] := by unfold frs; rw [if_pos c]
    have e2 : duL n ls f = ls := by unfold duL; rw [if_pos c]
    rw [e1, ← show ls = [List.replicate n 0] from c] at h1
    rw [e2] at h2
    rw [perm_asc h1 a1 hl, perm_asc h2 a2 hl]
  · have e2 : duL n ls f = due n (iA n ls) f := by unfold duL; rw [if_neg c]
    rw [e2] at h2
    by_cases c2 : (due n (iA n ls) f).length ≤ 25
    · rw [frs_due c c2] at h1
      rw [perm_asc (h1.trans h2.symm) a1 a2]
    · have l1 := h1.length_eq
      have l2 := h2.length_eq
      have l3 : (frs n ls f).length = 25 := by unfold frs; rw [if_neg c, List.length_take]; omega
      rw [decide_eq_false (fun z => by rw [z] at l1; omega), decide_eq_false (fun z => by rw [z] at l2; omega)]
end PLW
end
section
set_option Elab.async false
set_option linter.all false
set_option maxRecDepth 100000
set_option maxHeartbeats 1000000
namespace PLW
open PySem PySem.Spec PyProof.Rows L2 Evl RZ
open PL PySem.W SlX
section
variable {K : PySem.W.Frag} {σ : L2.St} {H : Hp} {ta tb : TE}
theorem dkv_self {N : Nm} (hn : nd N) : ∀ p ∈ dkv N, valV (dkv N) p.1 = some p.2 ∧ flatB p.2 = true := fun p hp => by
  obtain ⟨q, hq, rfl⟩ := List.mem_map.mp hp
  refine ⟨?_, rfl⟩
  rw [dkv_val, gv_mem hn hq]
  rfl
theorem ev_neNum {G1 G2 : Nm → Prop} (h : ∀ N M, G1 N → G2 M → N = M ∧ nd N) (ha : EvD ta σ H G1) (hb : EvD tb σ H G2) : Ev (tOp rNeDA ta tb) σ H (.bl false) := fun H1 e Q q =>
  ha H1 e _ fun d N H2 _ e2 h2 g2 => hb H2 (e.trans e2) _ fun d' M H3 _ e3 h3 g3 => by
    obtain ⟨rfl, hn⟩ := h N M g2 g3
    exact ⟨d, d', _, _, rfl, rfl, e3 _ _ h2, h3, rfl, dkv_self hn, q H3 (e2.trans e3)⟩
/-- two lots with one number of words have one numerator -/
theorem num_one {n : Nat} {ls ms : List (List Nat)} (h : ∀ d, left n ms d = left n ls d) {N M : Nm} (h1 : Num n ms N) (c1 : Canon N) (h2 : Num n ls M) (c2 : Canon M) : N = M := canon_eq c1 c2 fun d => by rw [h1 d, h2 d, h d]
end
end PLW
end
section
set_option Elab.async false
set_option linter.all false
set_option maxRecDepth 100000
set_option maxHeartbeats 1000000
namespace PLW
open PL
/-- the other lot, whichever the case -/
structure OtherLot (n : Nat) (ls : List (List Nat)) (f : Nat) (ms : List (List Nat)) : Prop where
  least : Least (frs n ls f) ms
  fine : Fine n ms
  ok : Ok0 n ms
  mt_ : mt n ms = mt n ls
  left_ : ∀ d, left n ms d = left n ls d
  again : Least (frs n ms f) ms
  few : (frs n ls f).length ≤ 24
  few2 : (frs n ms f).length ≤ 24
  perm : ms.Perm (frs n ms f)
theorem other_lot {n : Nat} {ls : List (List Nat)} (hf : Fine n ls) (h0 : Ok0 n ls) {f : Nat} (hd : Down (mt n ls) f) (h7 : f ≤ 7) {ms : List (List Nat)} (hp : ms.Perm (duL n ls f)) (ha : ms.Pairwise leW) (h24 : (duL n ls f).length ≤ 24) : OtherLot n ls f ms := by
  by_cases c : isA n ls
  · have e1 : frs n ls f = [List.replicate n 0] := by unfold frs; rw [if_pos c]
    have e2 : duL n ls f = ls := by unfold duL; rw [if_pos c]
    have e3 : ls = [List.replicate n 0] := c
    rw [e2, e3] at hp
    have e4 : ms = [List.replicate n 0] := perm_asc hp ha (List.pairwise_singleton _ _)
    have e5 : ms = ls := by rw [e4, e3]
    have hl : Least (frs n ls f) ls := by
      rw [e1, e3]
      exact ⟨List.pairwise_singleton _ _, by simp, fun x => ⟨fun h => ⟨h, fun y hy _ => by rw [List.mem_singleton.mp hy, List.mem_singleton.mp h]⟩, fun h => h.1⟩⟩
    subst e5
    exact ⟨hl, hf, h0, rfl, fun _ => rfl, hl, by rw [e1]; simp, by rw [e1]; simp, by rw [e1, e3]⟩
  · have hs := h0.resolve_left c
    have e2 : duL n ls f = due n (iA n ls) f := by unfold duL; rw [if_neg c]
    rw [e2] at hp h24
    have G := grows hf.n4 (fun x hx => (hf.len x hx).1) hs
    have e1 := frs_due (ls := ls) (f := f) c (by omega)
    have L := due_least hf.n4 G hp ha
    have O := first_lot hf hs hd h7 hp ha h24
    have e3 : iA n ms = iA n ls := funext O.iA_
    have e4 : frs n ms f = due n (iA n ls) f := by rw [frs_due O.no (by rw [e3]; omega), e3]
    refine ⟨by rw [e1]; exact L, O.fine, O.ok, O.mt_, fun d => ?_, by rw [e4]; exact L, by rw [e1]; exact h24, by rw [e4]; exact h24, by rw [e4]; exact hp⟩
    have h3 := left_iA n ms d
    have h4 := left_iA n ls d
    have := O.iA_ d
    omega
end PLW
end
section
set_option Elab.async false
set_option linter.all false
set_option maxRecDepth 100000
set_option maxHeartbeats 1000000
namespace PLW
open PySem PySem.Spec PyProof.Rows L2 Evl RZ
open PL PySem.W SlX
section
variable {K : PySem.W.Frag} {σ : L2.St} {H : Hp} {ta tb te : TE} {Ra Rb : Rl}
theorem ev_neBl (ha : EvP ta σ H Ra) (hb : EvP tb σ H Rb) (h : ∀ H1 H2 v u, Ra H1 v → Rb H2 u → ∃ b : Bool, v = .bl b ∧ u = .bl b) : Ev (tOp rNe ta tb) σ H (.bl false) := fun H1 e Q q =>
  ha H1 e _ fun v H2 e2 hv => hb H2 (e.trans e2) _ fun u H3 e3 hu => by
    obtain ⟨b, rfl, rfl⟩ := h _ _ _ _ hv hu
    exact ⟨by cases b <;> rfl, by rw [decide_eq_true rfl]; exact q H3 (e2.trans e3)⟩
/-- sorted(e) -/
theorem evp_sortW {ms : List (List Nat)} (h : EvP te σ H (rL K (rW K) ms)) (hne : ∀ m ∈ ms, m ≠ []) : EvP (tCB (rSortW K) (tCons te tNil)) σ H fun H v => ∃ so, so.Perm ms ∧ so.Pairwise leW ∧ rL K (rW K) so H v := fun H1 e Q q =>
  evf_sortW h hne H1 e Q fun ms' p vs H2 hp hpw _ e2 h2 pd => q _ H2 e2 ⟨ms', hp, hpw, p, vs, rfl, sq_of h2, pd⟩
/-- a told list == a sorted one -/
theorem evp_eqSo {so ls : List (List Nat)} (ha : EvP ta σ H (rL K (rW K) so)) (hb : EvP tb σ H fun H v => ∃ s3, s3.Perm ls ∧ s3.Pairwise leW ∧ rL K (rW K) s3 H v) : EvP (tOp (rEqD K) ta tb) σ H fun _ v => ∃ s3, s3.Perm ls ∧ s3.Pairwise leW ∧ v = .bl (decide (so = s3)) := fun H1 e Q q =>
  ha H1 e _ fun v H2 e2 hv => hb H2 (e.trans e2) _ fun u H3 e3 ⟨s3, p3, a3, hu⟩ => ⟨.list (so.map encW), .list (s3.map encW), dp_ex e3 (dp_L hv), dp_L hu, sh_L _, sh_L _, by
    rw [PyData.eqv, eqvA_W]
    exact q _ H3 (e2.trans e3) ⟨s3, p3, a3, rfl⟩⟩
end
end PLW
end
section
set_option Elab.async false
set_option linter.all false
set_option maxRecDepth 100000
set_option maxHeartbeats 2000000
namespace PLW
open PySem PySem.Spec PyProof.Rows L2 Evl RZ
open PL PySem.W SlX
open PySem.TMX (TmTxt PgOk)
open LamX (TabB LamS tLam lamEnv lamCx Tabs ExtN)
/-- the two defs that make lambdas: their code objects and these ones' tables -/
structure LamF (K : PySem.W.Frag) (mg : Str → Option Value) (base : Heap) (c1 P1 c2 P2 : Addr) : Prop where
  code1 : ∀ o fd, K.lookup (He.ga K "_law_right") = some o → o.data = .func fd → fd.code = .ref c1
  code2 : ∀ o fd, K.lookup (He.ga K "_law_like_right") = some o → o.data = .func fd → fd.code = .ref c2
  b1 : TabB base mg c1 P1
  b2 : TabB base mg c2 P2
  ne : P1 ≠ P2
def tabs (P1 P2 : Addr) : List (Addr × Str) := [(P1, "_law_right.<locals>.<lambda>"), (P2, "_law_like_right.<locals>.<lambda>")]
section
variable {P : Program} {w : World} {K : PySem.W.Frag} {mg : Str → Option Value} {base : Heap} {CT fI cc c1 P1 c2 P2 : Addr}
def sp_law_like_right (K : PySem.W.Frag) (P1 P2 : Addr) : Sp := fun vs H Q _ => ∃ (n last : Nat) (ls : List (List Nat)) (a : Addr) (xs : List V) (v : V), vs = [.int (n : Int), .ref a, v, .int (last : Int)] ∧ SqL K H a xs ∧ Pd rWh H xs ls ∧ rLo K n ls H v ∧ Fine n ls ∧ Ok0 n ls ∧ mt n ls 60 = true ∧ Down (mt n ls) last ∧ last ≤ 7 ∧ ls.Pairwise leW ∧ ls.length ≤ 9 ∧ Tabs (tabs P1 P2) H ∧
  ∀ H2, ExtN H H2 → Tabs (tabs P1 P2) H2 → Q (.bl true) H2
abbrev N_law_like_right : List Str := ["_law_letters", "_law_members_here", "_law_lot", "_law_last", "_law_due_here", "_law_other"]
theorem sc_law_like_right : FnScope N_law_like_right ["_law_letters", "_law_members_here", "_law_lot", "_law_last"] (defScope s_law_like_right) := ⟨rfl, rfl, rfl, by decide +kernel, rfl, by decide +kernel, by decide +kernel⟩
theorem has_law_like_right (T : Tx K mg) (C : Cl K mg) (M : ClM K) (TM : TmTxt K mg CT fI cc) (PG : PgOk P) (LF : LamF K mg base c1 P1 c2 P2) : Has P w K mg base "_law_like_right" ["_law_letters", "_law_members_here", "_law_lot", "_law_last"] 212 (sp_law_like_right K P1 P2) := by
  have h_law_due : Has P w K mg base _ _ 4 (sp_law_due K) := has_law_due T
  have h_is_first_lot : Has P w K mg base _ _ 207 (sp_is_first_lot K) := has_is_first_lot T C
  have h_first_lot_like : Has P w K mg base _ _ 207 (sp_first_lot_like K) := has_first_lot_like T C
  have h_first_lot_likeX : HasX P w K mg base _ _ 207 (sp_first_lot_likeX K CT) := has_first_lot_likeX T C TM PG
  have h_numerator : Has P w K mg base _ _ 205 (sp_numerator K) := has_numerator T C
  have h_met_from : Has P w K mg base _ _ 206 (sp_met_from K) := has_met_from T C
  obtain ⟨fd, F⟩ := T.fn_law_like_right
  have hb : Binds K fd ["_law_letters", "_law_members_here", "_law_lot", "_law_last"] [] := F.bindsN fun _ _ _ _ _ _ us hl => match us, hl with | [_, _, _, _], _ => rfl
  have hk := F.kp
  obtain ⟨oc, od, dV, kV, doc, pm, an, cdv, ct, osl, rfl, lk, hcd, _, _⟩ := F.ex
  obtain rfl : cdv = .ref c2 := LF.code2 _ _ lk rfl
  refine ⟨⟨_, fn_of lk hcd sc_law_like_right (fun vs H Q E h => ?_) (fun A outer s H vs Q E hr h => ?_), hb⟩, hk, T.g_law_like_right⟩
  · obtain ⟨n, last, ls, a, xs, v, rfl, _⟩ := h; rfl
  · obtain ⟨n, last, ls, a, xs, v, rfl, ha, pd, hv, hf, h0, h60, hdn, l7, hasc, h9, hT, k⟩ := h
    have TB := LF.b2
    have hmT : ∀ q : Str, q = "_law_like_right.<locals>.<lambda>" → (P2, q) ∈ tabs P1 P2 := fun q e => by rw [e]; exact .tail _ (.head _)
    have hu : ∀ q : Str, q = "_law_like_right.<locals>.<lambda>" → ∀ p ∈ tabs P1 P2, p.1 = P2 → p.2 = q := fun q e p hp hq => by
      rcases List.mem_cons.mp hp with rfl | hp
      · exact absurd hq LF.ne
      · obtain rfl := List.mem_singleton.mp hp
        rw [e]
    refine ⟨_, (pss_cons (ps_set (i := 4) sc_law_like_right.nd rfl (Or.inl rfl) (pe_h h_law_due (hr.mono (by decide)) pass0 (pa_cons (pv 0) (pa_cons (pv 1) (pa_cons (pv 3) pa_nil))))) (pss_cons (ps_if (pt_cmpR op_ne (pe_h h_is_first_lot (hr.mono (by decide)) pass0 (pa_cons (pv 2) pa_nil)) (pe_cmpR (op_eqD hr.units) (pv 4) (pe_callB (cr_sortW hr.units) (by rfl) T.sorted_ (by decide +kernel) (pa_cons (pv 1) pa_nil)) (nomark _)) (nomark _)) (pss_one (ps_ret pe_bl)) pss_nil) (pss_cons (ps_if (pt_cmpR op_gt (pe_callB call_len_seq (by rfl) T.len_ (by decide +kernel) (pa_cons (pv 4) pa_nil)) pe_int (nomark _)) (pss_one (ps_ret (pe_cmpR (op_eqD hr.units) (pe_told (k := 207) T TM TB rfl (hmT _ rfl) (hu _ rfl) (hr.mono (by decide)) (LamX.lamS_by (by rfl)) rfl (fun _ _ _ _ _ => rfl) (fun A outer s H E f c' hr2 => pe_hx h_first_lot_likeX (hr2.mono (by decide)) (passes_call (takes_of rfl rfl rfl rfl) fun _ _ _ _ h => h) (pa_cons (pv 2) pa_nil))) (pe_tup (pa_cons pe_str (pa_cons pe_int pa_nil))) (nomark _)))) pss_nil) (pss_cons (ps_set (i := 5) sc_law_like_right.nd rfl (Or.inl rfl) (pe_h h_first_lot_like (hr.mono (by decide)) pass0 (pa_cons (pv 2) pa_nil))) (pss_cons (ps_if (PW.pt (pw_or (pt_cmpR (op_neD hr.units) (pe_members C M (pv 5) (hr.mono (by decide))) (pe_tupleOf (by rfl) T.tuple_ (pv 4)) (nomark _)) (pw_or (pt_cmpR (op_ne_dictA (Nat.lt_of_succ_lt (hu_of hr))) (pe_h h_numerator (hr.mono (by decide)) pass0 (pa_cons (pv 5) pa_nil)) (pe_h h_numerator (hr.mono (by decide)) pass0 (pa_cons (pv 2) pa_nil)) (nomark _)) (pw_or1 (pt_not (pt_val (pe_h h_is_first_lot (hr.mono (by decide)) pass0 (pa_cons (pv 5) pa_nil)))))))) (pss_one (ps_ret pe_bl)) pss_nil) (pss_one (ps_ret (pe_and (pe_cmpR (op_lotEq T C M (hr.mono (by decide))) (pe_h h_first_lot_like (hr.mono (by decide)) pass0 (pa_cons (pv 5) pa_nil)) (pv 5) (nomark _)) (pe_one (pe_cmpR op_eq (pe_h h_met_from (hr.mono (by decide)) pass0 (pa_cons (pv 5) pa_nil)) (pv 3) (nomark _))))))))))), ?_⟩
    have n1 := hf.n1
    have n4 := hf.n4
    have hx : ∀ x ∈ ls, x.length = n := fun x hx => (hf.len x hx).1
    have hne : ∀ m ∈ ls, m ≠ [] := fun m hm z => by have := hx m hm; rw [z] at this; simp at this; omega
    refine q_asgP (Rr := fun H v => ∃ so, so.Perm (duL n ls last) ∧ so.Pairwise leW ∧ rL K (rW K) so H v) (evp_call (ea_cons (ev_var rfl) (ea_cons (ev_var rfl) (ea_cons (ev_var rfl) ea_nil))) (SpP.of fun H1 e1 => ⟨n, last, ls, a, xs, rfl, ex_l e1 ha, pd.keep rWh_stb (Kp.ex e1), hx, h0, h9, n1, n4, l7, rfl⟩)) (fun u H1 e1 ⟨so, p1, a1, p, us, eu, hp, pdu⟩ => ?_)
    subst eu
    refine q_when (b := false) (et_test (ev_neBl (evp_call (ea_cons (ev_var rfl) ea_nil) (SpP.of fun H2 e2 => ⟨n, last, ls, v, rfl, rLo_ex (e1.trans e2) hv, hf, h0, h60, hdn, rfl⟩)) (evp_eqSo (so := so) (ls := ls) (evp_var rfl fun H2 e2 => ⟨p, us, rfl, ex_l e2 hp, pdu.keep (rW_stb K) (Kp.ex e2)⟩) (evp_sortW (evp_var rfl fun H2 e2 => ⟨a, xs, rfl, ex_l (e1.trans e2) ha, (pd.keep rWh_stb (Kp.ex (e1.trans e2))).impW⟩) hne)) (fun H2 H3 v2 u2 ⟨s1, q1, b1, ev⟩ ⟨s3, q3, b3, eu⟩ => ⟨_, ev, by rw [eu, test_same hasc h9 q1 b1 p1 a1 q3 b3]⟩))) (fun z => by cases z) (fun _ H2 e2 => ?_)
    have e12 := e1.trans e2
    refine q_when (b := decide (24 < (duL n ls last).length)) (et_is (et_test (ev_cmp (ev_lenL (ev_var rfl) (ex_l e2 hp)) ev_c)) (by rw [pdu.1, p1.length_eq]; exact natlt _ _)) (fun z H3 e3 => ?_) (fun z H3 e3 => ?_)
    · have hz : 24 < (duL n ls last).length := of_decide_eq_true z
      have e13 := e12.trans e3
      have hcA : ¬ isA n ls := fun c => by
        have e2 : duL n ls last = ls := by unfold duL; rw [if_pos c]
        rw [e2] at hz; omega
      have hfl : 24 < (frs n ls last).length := by
        have e2 : duL n ls last = due n (iA n ls) last := by unfold duL; rw [if_neg hcA]
        rw [e2] at hz
        unfold frs
        rw [if_neg hcA, List.length_take]
        omega
      refine r_told (n := 24) (hT.ext e13) (fun H4 E4 e4 g Q' => q_callX (sp := sp_first_lot_likeX K CT) (ea_cons (ev_var (i := 2) (v := v) rfl) ea_nil) fun H5 e5 => ⟨n, last, ls, v, rfl, rLo_ex e5 (rLo_ext e4 (rLo_ex e13 hv)), hf, h0, h60, hdn, hfl, g.ex e5⟩) (fun H4 pp e4 T4 hpp => ?_)
      refine (ea_cons (ev_c (v := .str "many")) (ea_cons (ev_c (v := .int 24)) ea_nil)) H4 (Ex.refl H4) _ fun H5 e5 => ⟨sz_of (show 2 ≤ 100000 by decide), fun r hr => ⟨_, _, dp_many (n := 24) rfl (st_of ((e5.trans (Ex.new hr)) _ _ hpp)), dp_many (n := 24) rfl (st_of upd_same), by decide +kernel, by decide +kernel, ?_⟩⟩
      have e6 : ExtN H (upd H5 r (.tup [.str "many", .int 24])) := (ExtN.of e13).trans (extN_ex e4 (e5.trans (Ex.new hr)))
      rw [show PyData.eqv (.tuple [.str "many", .int ((24 : Nat) : Int)]) (.tuple [.str "many", .int ((24 : Nat) : Int)]) = true by decide +kernel]
      exact k _ e6 (T4.ext (e5.trans (Ex.new hr)))
    · have hz : (duL n ls last).length ≤ 24 := by have := of_decide_eq_false z; omega
      have e13 := e12.trans e3
      have O := other_lot hf h0 hdn l7 p1 a1 hz
      have hst : Stb (rTs K (rW K) so) := fun k' h' => rTs_stb (rW_stb K) k' h'
      refine q_asgP (Rr := rLo K n so) ((evp_call (ea_cons (ev_var rfl) ea_nil) (SpP.of fun H4 e4 => ⟨n, last, ls, v, rfl, rLo_ex (e13.trans e4) hv, hf, h0, h60, hdn, l7, O.few, rfl⟩)).imp fun H4 v4 ⟨ms, hm, hr⟩ => by rw [O.least.uniq hm]; exact hr) (fun oth H4 e4 ho => ?_)
      have hp4 := ex_l ((e2.trans e3).trans e4) hp
      have pd4 := pdu.keep (rW_stb K) (Kp.ex ((e2.trans e3).trans e4))
      have e14 := e13.trans e4
      have hdo : Down (mt n so) last := by rw [O.mt_]; exact hdn
      have h60o : mt n so 60 = true := by rw [O.mt_]; exact h60
      refine q_when (b := false) ?_ (fun z => by cases z) (fun _ H5 e5 => ?_)
      · refine et_is (et_or (et_test (ev_neD (d := .tuple (so.map encW)) (e := .tuple (so.map encW)) ((evp_prop (R := rTs K (rW K) so) hst (evp_var (R := rLo K n so) rfl fun H5 e5 => rLo_ex e5 ho)).imp fun H5 v5 h5 => dp_T h5) ((evp_tuple (rW_stb K) (evp_var (R := rL K (rW K) so) rfl fun H5 e5 => ⟨p, us, rfl, ex_l e5 hp4, pd4.keep (rW_stb K) (Kp.ex e5)⟩)).imp fun H5 v5 h5 => dp_T h5) (sh_T _) (sh_T _))) fun _ => et_or (et_test (ev_neNum (fun N N2 ⟨g1, g2, _⟩ ⟨g3, g4, _⟩ => ⟨num_one O.left_ g1 g2 g3 g4, canon_nd g2⟩) (evd_call (ea_cons (ev_var rfl) ea_nil) (fun H5 e5 => ⟨n, so, oth, rfl, rLo_ex e5 ho, O.fine, rfl⟩)) (evd_call (ea_cons (ev_var rfl) ea_nil) (fun H5 e5 => ⟨n, ls, v, rfl, rLo_ex (e14.trans e5) hv, hf, rfl⟩)))) fun _ => et_not (a := true) (et_test (EvP.ev ((evp_call (ea_cons (ev_var rfl) ea_nil) (SpP.of fun H5 e5 => ⟨n, last, so, oth, rfl, rLo_ex e5 ho, O.fine, O.ok, h60o, hdo, rfl⟩)).imp fun H5 v5 ⟨s5, q5, b5, ev⟩ => by rw [ev, perm_asc (q5.trans O.perm.symm) b5 a1, decide_eq_true rfl])))) (by rw [PyData.eqv, eqvA_W, decide_eq_true rfl]; rfl)
      · have e15 := e14.trans e5
        refine s_ret (v := .bl true) (ev_is (ev_andV (a := true) (b := true) (ev_is (ev_lotEq M (ls := so) (ms := so) ((evp_call (ea_cons (ev_var rfl) ea_nil) (SpP.of fun H6 e6 => ⟨n, last, so, oth, rfl, rLo_ex (e5.trans e6) ho, O.fine, O.ok, h60o, hdo, l7, O.few2, rfl⟩)).imp fun H6 v6 ⟨ms, hm, hr⟩ => by rw [O.again.uniq hm]; exact hr) (evp_var rfl fun H6 e6 => rLo_ex (e5.trans e6) ho)) (by rw [decide_eq_true rfl])) fun _ => ev_is (ev_eqI (i := (last : Int)) (EvP.ev ((evp_call (ea_cons (ev_var rfl) ea_nil) (SpP.of fun H6 e6 => ⟨n, so, oth, rfl, rLo_ex (e5.trans e6) ho, O.fine, h60o, rfl⟩)).imp fun H6 v6 ⟨f, ev, hd⟩ => by rw [ev, hd.uniq hdo])) (ev_var rfl)) (by rw [decide_eq_true rfl])) rfl) (fun H6 e6 => k H6 (ExtN.of (e15.trans e6)) (hT.ext (e15.trans e6)))
end
end PLW
end
section
set_option Elab.async false
set_option linter.all false
set_option maxRecDepth 100000
set_option maxHeartbeats 2000000
namespace PLW
open PySem PySem.Spec PyProof.Rows L2 Evl RZ
open PL PySem.W SlX
open PySem.TMX (TmTxt PgOk)
open LamX (TabB TabS LamS tLam lamEnv lamCx Tabs ExtN CodeO)
/-- all but t and the tables stands -/
def ExT (t : Addr) (H H' : Hp) : Prop := ∀ b o, b ≠ t → H b = some o → (∀ ps, o ≠ .tbl ps) → H' b = some o
theorem ExT.b {t : Addr} {H H' : Hp} (e : ExB t H H') : ExT t H H' := fun b o n h _ => e b o n h
theorem ExT.n {t : Addr} {H H' : Hp} (e : ExtN H H') : ExT t H H' := fun b o _ h n => e b o h n
theorem ExT.e {t : Addr} {H H' : Hp} (e : Ex H H') : ExT t H H' := fun b o _ h _ => e b o h
theorem ExT.refl {t : Addr} {H : Hp} : ExT t H H := fun _ _ _ h _ => h
theorem ExT.trans {t : Addr} {H H1 H2 : Hp} (a : ExT t H H1) (b : ExT t H1 H2) : ExT t H H2 := fun c o n h k => b c o n (a c o n h k) k
theorem tub_n {t : Addr} {H H' : Hp} (e : ExtN H H') : Tub H t → Tub H' t := fun ⟨a, b, c, h⟩ => ⟨a, b, c, e _ _ h (fun _ z => by cases z)⟩
theorem tabs_b {t : Addr} {H H' : Hp} {T : List (Addr × Str)} (ht : Tub H t) (e : ExB t H H') (h : Tabs T H) : Tabs T H' := fun p hp => by
  obtain ⟨x, y, z, h0⟩ := ht
  have ne : ∀ {b : Addr} {o : HO}, H b = some o → (∀ xs, o ≠ .lst xs) → b ≠ t := fun {b o} hb hn c => by
    rw [c, h0] at hb
    exact hn _ (Option.some.inj hb).symm
  obtain ⟨ps, h1, h2, h3⟩ := h p hp
  refine ⟨ps, e _ _ (ne h1 fun _ z => by cases z) h1, h2, fun pos cv hc => ?_⟩
  obtain ⟨c, e1, e2⟩ := h3 pos cv hc
  exact ⟨c, e1, e _ _ (ne e2 fun _ z => by unfold CodeO at z; cases z) e2⟩
/-- what is drawn: few small members, ascending, none over another -/
structure Dr (n : Nat) (ls : List (List Nat)) : Prop where
  n1 : 1 ≤ n
  n4 : n ≤ 4
  len : ∀ x ∈ ls, x.length = n ∧ ∀ k ∈ x, k ≤ 3
  few : ls.length ≤ 5
  self : Least ls ls
  ok : Ok0 n ls
theorem dr_least {n : Nat} {ms fs : List (List Nat)} (n1 : 1 ≤ n) (n4 : n ≤ 4) (hl : ms.length ≤ 5) (hm : ∀ x ∈ ms, x.length = n ∧ 0 < x.sum ∧ ∀ k ∈ x, k ≤ 3) (h : Least ms fs) : Dr n fs := by
  have sub : ∀ x ∈ fs, x ∈ ms := fun x hx => ((h.mem x).mp hx).1
  refine ⟨n1, n4, fun x hx => ⟨(hm x (sub x hx)).1, (hm x (sub x hx)).2.2⟩, Nat.le_trans (List.Nodup.length_le_of_subset h.nodup fun x hx => sub x hx) hl, ⟨h.asc, h.nodup, fun x => ⟨fun hx => ⟨hx, fun y hy hd => ((h.mem x).mp hx).2 y (sub y hy) hd⟩, fun hx => hx.1⟩⟩, .inr fun x hx => (hm x (sub x hx)).2.1⟩
theorem dr_all {n : Nat} (n1 : 1 ≤ n) (n4 : n ≤ 4) : Dr n [List.replicate n 0] :=
  ⟨n1, n4, fun x hx => by
    rw [List.mem_singleton.mp hx]
    exact ⟨List.length_replicate, fun k hk => by have := List.eq_of_mem_replicate hk; omega⟩, by simp, ⟨List.pairwise_singleton _ _, by simp, fun x => ⟨fun hx => ⟨hx, fun y hy _ => by rw [List.mem_singleton.mp hy, List.mem_singleton.mp hx]⟩, fun hx => hx.1⟩⟩, .inl rfl⟩
theorem low3 : ∀ {x : List Nat} {n : Nat}, x.length = n → (∀ k ∈ x, k ≤ 3) → x.sum ≤ 3 * n
  | [], n, h, _ => by simp
  | a :: x, n, h, hk => by
    have h1 := hk a (by simp)
    have h2 := low3 (x := x) (n := n - 1) (by simp at h; omega) fun k hk' => hk k (by simp [hk'])
    rw [List.sum_cons]
    simp at h
    omega
theorem Dr.sum {n : Nat} {ls : List (List Nat)} (h : Dr n ls) : ∀ x ∈ ls, x.sum ≤ 12 := fun x hx => by
  have h1 := low3 (h.len x hx).1 (h.len x hx).2
  have := h.n4
  omega
theorem Dr.fine {n : Nat} {ls : List (List Nat)} (h : Dr n ls) : Fine n ls := by
  refine ⟨h.n1, h.n4, fun x hx => ⟨(h.len x hx).1, fun k hk => by have := (h.len x hx).2 k hk; omega⟩, by have := h.few; omega, ?_⟩
  have : ∀ l : List (List Nat), (∀ x ∈ l, x.sum ≤ 12) → sumsW l ≤ 12 * l.length := fun l => by
    induction l with
    | nil => intro _; simp [sumsW]
    | cons a l ih =>
      intro h
      have h1 := h a (by simp)
      have h2 := ih fun x hx => h x (by simp [hx])
      simp only [sumsW, List.map_cons, List.sum_cons, List.length_cons] at h2 ⊢
      omega
  have h1 := this ls h.sum
  have := h.few
  omega
/-- the law's way tells the program's -/
theorem from_down {n : Nat} {ls : List (List Nat)} (h : Dr n ls) {g r : Nat} (hg : 1 ≤ g) (hx : ∀ x ∈ ls, x.sum ≤ g) (hr : From (mt n ls) g r) (h60 : g ≤ 60) : (r = 61 ∧ mt n ls 60 = false) ∨ (mt n ls 60 = true ∧ Down (mt n ls) r) := by
  rcases hr with ⟨e, k⟩ | ⟨r1, f, f1, f2, f3, f4, f5, f6⟩
  · exact .inl ⟨e, k 60 h60 (Nat.le_refl _)⟩
  · right
    have up : ∀ d, f ≤ d → met n ls d := fun d => by
      induction d with
      | zero => intro h'; omega
      | succ d ih =>
        intro h'
        by_cases c : f = d + 1
        · rw [← c]; exact mt_iff.mp f3
        · exact met_on h.n1 h.n4 (fun x hx => (h.len x hx).1) (by omega) (fun x hxm => by have := hx x hxm; omega) (ih (by omega))
    exact ⟨mt_iff.mpr (up 60 f2), r1, by omega, fun d h1 h2 => by
      by_cases c : d ≤ f
      · exact f5 d h1 c
      · exact mt_iff.mpr (up d (by omega)), f6⟩
section
variable {K : PySem.W.Frag} {P : Program} {w : World} {mg : Str → Option Value} {σ : L2.St} {H H' : Hp} {ta tb tc te tl td ty : TE} {D : Ends} {tz tu : TS} {i j l n : Nat} {R R' R1 R2 R3 : Rl} {t : TA} {g : TG}
theorem g_tup3 {T : Addr} {p q r : V} {Q : L2.St → Hp → Prop} (h : SqT K H T [p, q, r]) (k : Q (((σ.set i (some p)).set j (some q)).set l (some r)) H) : gTup K 3 (gCons (gName i) (gCons (gName j) (gCons (gName l) gNil))) (.ref T) σ H Q :=
  ⟨T, [p, q, r], rfl, h, rfl, p, [q, r], rfl, q, [r], rfl, r, [], rfl, rfl, k⟩
theorem q_asgTri (h1 : EvP ta σ H R1) (h2 : EvP tb σ H R2) (h3 : EvP tc σ H R3) (k : ∀ a b c H1 H2 H3 H4, Ex H H1 → R1 H1 a → Ex H1 H2 → R2 H2 b → Ex H2 H3 → R3 H3 c → Ex H3 H4 → tz D (((σ.set i (some a)).set j (some b)).set l (some c)) H4) : tSeq (tAsg (tTup (tCons ta (tCons tb (tCons tc tNil)))) (gTup K 3 (gCons (gName i) (gCons (gName j) (gCons (gName l) gNil))))) tz D σ H :=
  h1 H (Ex.refl H) _ fun a H1 e1 ha => h2 H1 e1 _ fun b H2 e2 hb => h3 H2 (e1.trans e2) _ fun c H3 e3 hc => ⟨sz_of (show 3 ≤ 100000 by decide), fun p hp => g_tup3 (Q := fun σ' H' => tz D σ' H') (st_of upd_same) (k a b c H1 H2 H3 _ e1 ha e2 hb e3 hc (Ex.new hp))⟩
/-- x = c + draw -/
theorem q_pourAdd {c : Int} {t0 : Addr} {f : Int → Int → V} (h : EvA t σ H [.ref t0, .int (n : Int)]) (ht : Tub H t0) (n0 : 0 < n) (n1 : n < 1000000) (k : ∀ (m : Nat) v H2, v = f c (m : Int) → m < n → ExB t0 H H2 → Tub H2 t0 → tz D (σ.set i (some v)) H2) :
    tSeq (tAsg (tOp (rI0 f) (tC (.int c)) (tCall sp_law_pour [] E0 t)) (gName i)) tz D σ H :=
  r_pour h ht n0 n1 fun m H2 hm e2 h2 => ⟨c, (m : Int), rfl, rfl, k m _ H2 rfl hm e2 h2⟩
/-- the least of the drawn products -/
theorem q_leastDrawn {t0 : Addr} (h : EvA t σ H [.ref t0, .int (n : Int)]) (ht : Tub H t0) (n1 : 1 ≤ n) (n4 : n ≤ 4) (k : ∀ a ys fs H3, ExB t0 H H3 → Tub H3 t0 → SqL K H3 a ys → Pd rWh H3 ys fs → Dr n fs → tz D (σ.set i (some (.ref a))) H3) :
    tSeq (tAsg (tCall (sp_law_least K) [] E0 (tCons (tCall sp_law_members [] E0 t) tNil)) (gName i)) tz D σ H :=
  h H (Ex.refl H) _ fun H1 e1 => ⟨t0, n, rfl, ht.ex e1, n1, n4, fun p xs ms H2 hp e2 h2 hx pd hl hms => ⟨_, ⟨ms, n, p, xs, rfl, sq_of hx, pd, fun x hxm => ⟨(hms x hxm).1, fun k hk => by have := (hms x hxm).2.2 k hk; omega⟩, n1, by omega, by omega, rfl⟩, fun v H3 e3 ⟨fs, hf, a, vs, ev, ha, pdf⟩ => by
    subst ev
    exact k a vs fs H3 (((ExB.ex e1).trans e2).trans (ExB.ex e3)) (h2.ex e3) ha pdf (dr_least n1 n4 hl hms hf)⟩⟩
theorem evp_zerosH {n : Nat} (h1 : 1 ≤ n) (h2 : n ≤ 1000) (h : Ev tb σ H (.int (n : Int))) : EvP (tOp (rRepZ K) (tTup (tCons (tC (.int 0)) tNil)) tb) σ H (rWh (List.replicate n 0)) := fun H1 e Q q =>
  eu_tup (σ := σ) (H := H) (ea_cons ev_c ea_nil) (show 1 ≤ 100000 by decide) H1 e _ fun p H2 hp e2 h3 => h H2 (e.trans e2) _ fun H3 e3 => ⟨p, n, [.int 0], rfl, rfl, st_of (e3 _ _ h3), by simp, by omega, by omega, by simp, fun c => by
    obtain rfl : n = 1 := by omega
    exact q _ H3 (e2.trans e3) ⟨p, rfl, e3 _ _ h3⟩, fun c t ht => q _ _ ((e2.trans e3).trans (Ex.new ht)) ⟨t, rfl, by
      rw [Int.toNat_natCast, wV_rep]
      exact upd_same⟩⟩
/-- at times the one product 1 -/
theorem q_ifDrawn {t0 a : Addr} {ys : List V} {fs : List (List Nat)} {m : Nat} (h : EvA t σ H [.ref t0, .int (m : Int)]) (ht : Tub H t0) (m0 : 0 < m) (m1 : m < 1000000) (n1 : 1 ≤ n) (n4 : n ≤ 4) (hj : σ[j]? = some (some (.int (n : Int)))) (hi : σ[i]? = some (some (.ref a))) (ha : SqL K H a ys) (hat : ∀ H2, ExB t0 H H2 → Tub H2 t0 → SqL K H2 a ys) (pd : Pd rWh H ys fs) (dr : Dr n fs)
    (k : ∀ a ys fs H3, ExB t0 H H3 → Tub H3 t0 → SqL K H3 a ys → Pd rWh H3 ys fs → Dr n fs → tz D (σ.set l (some (.ref a))) H3) :
    tSeq (tAsg (tIf (tTest (tOp rEq (tCall sp_law_pour [] E0 t) (tC (.int 0)))) (tLst (tCons (tOp (rRepZ K) (tTup (tCons (tC (.int 0)) tNil)) (tVar j)) tNil)) (tVar i)) (gName l)) tz D σ H :=
  r_pour h ht m0 m1 fun z H2 hz e2 h2 => ⟨rfl, _, rfl, by
    by_cases c : (V.int (z : Int)) = V.int 0
    · rw [decide_eq_true c]
      show tLst (tCons (tOp (rRepZ K) (tTup (tCons (tC (.int 0)) tNil)) (tVar j)) tNil) σ H2 (fun x H1 => tz D (σ.set l (some x)) H1)
      refine evf_one (S := fun x : List Nat => rWh x) (x := List.replicate n 0) (evp_zerosH n1 (by omega) (ev_var hj)) rWh_stb H2 (Ex.refl H2) _ fun p vs H3 hp e3 h3 pd3 => ?_
      exact k p vs _ H3 (e2.trans (ExB.ex e3)) (h2.ex e3) (sq_of h3) pd3 (dr_all n1 n4)
    · rw [decide_eq_false c]
      show tVar i σ H2 _
      refine ⟨.ref a, hi, ?_⟩
      exact k a ys fs H2 e2 h2 (hat H2 e2 h2) (pd.keep rWh_stb (ExB.kp ht e2)) dr⟩
/-- tuple(list): the new tuple -/
theorem evp_tupleN {ι : Type} {S : ι → Rl} {is : List ι} (hs : ∀ i, Stb (S i)) (h : EvP te σ H (rL K S is)) : EvP (tThen te (kTup K)) σ H fun H v => ∃ p vs, v = .ref p ∧ H p = some (.tup vs) ∧ Pd S H vs is := fun H1 e Q q =>
  h H1 e _ fun v H2 e2 ⟨a, vs, ev, h1, pd⟩ => .inl ⟨a, vs, ev, h1, fun p hp => q _ _ (e2.trans (Ex.new hp)) ⟨p, vs, rfl, upd_same, pd.keep hs (Kp.ex (Ex.new hp))⟩⟩
/-- if told(lambda: ..) != ("many", n): .. -/
theorem q_toldNe {T : List (Addr × Str)} {CT : Addr} {tt : XK → TE} (hT : Tabs T H) (h : ∀ H1 E, ExtN H H1 → Gone CT 60 H1 E → ∀ Q', tt E σ H1 Q') (k : ∀ H1, ExtN H H1 → Tabs T H1 → tz D σ H1) :
    tSeq (tIfS (tTest (tOp (rNeD K) (tLam T (TMany CT) tt) (tTup (tCons (tC (.str "many")) (tCons (tC (.int 60)) tNil))))) tu tNext) tz D σ H := by
  refine r_told (n := 60) hT h (fun H4 pp e4 T4 hpp => ?_)
  refine (ea_cons (ev_c (v := .str "many")) (ea_cons (ev_c (v := .int 60)) ea_nil)) H4 (Ex.refl H4) _ fun H5 e5 => ⟨sz_of (show 2 ≤ 100000 by decide), fun r hr => ⟨_, _, dp_many (n := 60) rfl (st_of ((e5.trans (Ex.new hr)) _ _ hpp)), dp_many (n := 60) rfl (st_of upd_same), by decide +kernel, by decide +kernel, ?_⟩⟩
  have e6 : ExtN H (upd H5 r (.tup [.str "many", .int 60])) := extN_ex e4 (e5.trans (Ex.new hr))
  rw [show PyData.eqv (.tuple [.str "many", .int ((60 : Nat) : Int)]) (.tuple [.str "many", .int ((60 : Nat) : Int)]) = true by decide +kernel]
  exact ⟨_, rfl, k _ e6 (T4.ext (e5.trans (Ex.new hr)))⟩
theorem s_toldEq {T : List (Addr × Str)} {CT : Addr} {tt : XK → TE} (hT : Tabs T H) (h : ∀ H1 E, ExtN H H1 → Gone CT 60 H1 E → ∀ Q', tt E σ H1 Q') (k : ∀ H1, ExtN H H1 → Tabs T H1 → D.rt (.bl true) H1) :
    tRet (tOp (rEqD K) (tLam T (TMany CT) tt) (tTup (tCons (tC (.str "many")) (tCons (tC (.int 60)) tNil)))) D σ H := by
  refine r_told (n := 60) hT h (fun H4 pp e4 T4 hpp => ?_)
  refine (ea_cons (ev_c (v := .str "many")) (ea_cons (ev_c (v := .int 60)) ea_nil)) H4 (Ex.refl H4) _ fun H5 e5 => ⟨sz_of (show 2 ≤ 100000 by decide), fun r hr => ⟨_, _, dp_many (n := 60) rfl (st_of ((e5.trans (Ex.new hr)) _ _ hpp)), dp_many (n := 60) rfl (st_of upd_same), by decide +kernel, by decide +kernel, ?_⟩⟩
  have e6 : ExtN H (upd H5 r (.tup [.str "many", .int 60])) := extN_ex e4 (e5.trans (Ex.new hr))
  rw [show PyData.eqv (.tuple [.str "many", .int ((60 : Nat) : Int)]) (.tuple [.str "many", .int ((60 : Nat) : Int)]) = true by decide +kernel]
  exact k _ e6 (T4.ext (e5.trans (Ex.new hr)))
/-- a loop over a new list of six, one of them drawn -/
theorem q_forSix {t0 : Addr} {b r : Nat} {i4 : Nat} {m : Nat} {tm : TE} (h4 : σ[i4]? = some (some (.int (r : Int)))) (h : EvA t σ H [.ref t0, .int (m : Int)]) (ht : Tub H t0) (m0 : 0 < m) (m1 : m < 1000000) (hm : ∀ H2, Ev tm σ H2 (.int (b : Int)))
    (k : ∀ p (z : Nat) H1, z < m → H p = none → ExB t0 H H1 → Tub H1 t0 → p ≠ t0 → H1 p = some (.lst [.int 1, .int 2, .int (r : Int), .int ((r : Int) + 1), .int (1 + (z : Int)), .int (b : Int)]) → LoopL K g tu { D with nx := tz D } σ p [.int 1, .int 2, .int (r : Int), .int ((r : Int) + 1), .int (1 + (z : Int)), .int (b : Int)] H1) :
    tSeq (tFor (iList K (tLst (tCons (tC (.int 1)) (tCons (tC (.int 2)) (tCons (tVar i4) (tCons (tOp (rI0 fun i j => .int (i + j)) (tVar i4) (tC (.int 1))) (tCons (tOp (rI0 fun i j => .int (i + j)) (tC (.int 1)) (tCall sp_law_pour [] E0 t)) (tCons tm tNil)))))))) g tu) tz D σ H := by
  refine ⟨.int (r : Int), h4, .int (r : Int), h4, (r : Int), 1, rfl, rfl, ?_⟩
  refine r_pour h ht m0 m1 fun z H2 hz e2 h2 => ⟨1, (z : Int), rfl, rfl, ?_⟩
  refine hm H2 H2 (Ex.refl H2) _ fun H3 e3 => ⟨sz_of (show 6 ≤ 100000 by decide), fun p hp => ?_⟩
  have hpt : p ≠ t0 := fun c => by
    obtain ⟨x, y, u, h'⟩ := h2.ex e3
    rw [c, h'] at hp; cases hp
  have hpH : H p = none := by
    cases ho : H p with
    | none => rfl
    | some o => rw [e3 _ _ (e2 _ _ hpt ho)] at hp; cases hp
  obtain ⟨Pv, a, b, c, d⟩ := k p z _ hz hpH (e2.trans (ExB.ex (e3.trans (Ex.new hp)))) (h2.ex (e3.trans (Ex.new hp))) hpt upd_same
  exact ⟨p, rfl, ⟨_, sq_of upd_same⟩, for_list Pv a b c d⟩
end
theorem sql_b {t0 a : Addr} {H H2 : Hp} {K : PySem.W.Frag} {ys : List V} {fs : List (List Nat)} (ht : Tub H t0) (pd : Pd rWh H ys fs) (h : SqL K H a ys) (e : ExB t0 H H2) : SqL K H2 a ys := by
  obtain ⟨x, y, z, h0⟩ := ht
  rcases h with (h | ⟨o, h⟩) | h
  · refine .inl (.inl (e _ _ (fun c => ?_) h))
    rw [c, h0] at h
    obtain rfl : [V.int x, V.int y, V.int z] = ys := by injection h with h; injection h
    obtain ⟨m, _, b, eb, _⟩ := pd.get (j := 0) (v := .int x) rfl
    cases eb
  · exact .inl (.inr ⟨o, e _ _ (fun c => by rw [c, h0] at h; cases h) h⟩)
  · exact .inr h
theorem tub_ne {t0 b : Addr} {H : Hp} {o : HO} (ht : Tub H t0) (hb : H b = some o) (hn : ∀ xs, o ≠ .lst xs) : b ≠ t0 := fun c => by
  obtain ⟨x, y, z, h0⟩ := ht
  rw [c, h0] at hb
  exact hn _ (Option.some.inj hb).symm
theorem rLo_b {t0 : Addr} {H H' : Hp} {K : PySem.W.Frag} {n : Nat} {ls : List (List Nat)} {v : V} (ht : Tub H t0) (e : ExB t0 H H') (h : rLo K n ls H v) : rLo K n ls H' v := by
  obtain ⟨a, dx, m, ev, h1, h2⟩ := h
  refine ⟨a, dx, m, ev, ?_, rTs_stb (rW_stb K) (ExB.kp ht e) h2⟩
  rcases h1 with ⟨h3, h4⟩ | ⟨h3, h4⟩
  · exact .inl ⟨e _ _ (tub_ne ht h3 fun _ z => by cases z) h3, h4⟩
  · exact .inr ⟨e _ _ (tub_ne ht h3 fun _ z => by cases z) h3, e _ _ (tub_ne ht h4 fun _ z => by cases z) h4⟩
theorem rD_b {t0 : Addr} {H H' : Hp} {N : Nm} {v : V} (ht : Tub H t0) (e : ExB t0 H H') : rD N H v → rD N H' v := fun ⟨d, o, ev, h⟩ => ⟨d, o, ev, e _ _ (tub_ne ht h fun _ z => by cases z) h⟩
section
variable {P : Program} {w : World} {K : PySem.W.Frag} {mg : Str → Option Value} {base : Heap} {CT fI cc c1 P1 c2 P2 : Addr}
def sp_law_right (P1 P2 : Addr) : Sp := fun vs H Q _ => ∃ t, vs = [.ref t] ∧ Tub H t ∧ Tabs (tabs P1 P2) H ∧ ∀ H2, ExT t H H2 → Tub H2 t → Tabs (tabs P1 P2) H2 → Q (.bl true) H2
abbrev N_law_right : List Str := ["_law_tub_here", "_law_letters", "_law_members_here", "_law_counts", "_law_last", "_law_degree", "_law_lot"]
theorem sc_law_right : FnScope N_law_right ["_law_tub_here"] (defScope s_law_right) := ⟨rfl, rfl, rfl, by decide +kernel, rfl, by decide +kernel, by decide +kernel⟩
theorem has_law_right (T : Tx K mg) (C : Cl K mg) (M : ClM K) (TM : TmTxt K mg CT fI cc) (PG : PgOk P) (LF : LamF K mg base c1 P1 c2 P2) : Has P w K mg base "_law_right" ["_law_tub_here"] 215 (sp_law_right P1 P2) := by
  have h_law_pour : Has P w K mg base _ _ 1 sp_law_pour := has_law_pour T
  have h_law_least : Has P w K mg base _ _ 2 (sp_law_least K) := has_law_least T
  have h_law_members : Has P w K mg base _ _ 3 sp_law_members := has_law_members T
  have h_Lot := has_Lot T C (has_told_tup (P := P) (w := w) (base := base) T C)
  have h_law_numerator : Has P w K mg base _ _ 1 (sp_law_numerator K) := has_law_numerator T
  have h_law_from : Has P w K mg base _ _ 6 (sp_law_from K) := has_law_from T
  have h_met_fromX : HasX P w K mg base _ _ 206 (sp_met_fromX K CT) := has_met_fromX T C TM PG
  have h_is_first_lotX : HasX P w K mg base _ _ 207 (sp_is_first_lotX K CT) := has_is_first_lotX T C TM PG
  have h_met_from : Has P w K mg base _ _ 206 (sp_met_from K) := has_met_from T C
  have h_is_met : Has P w K mg base _ _ 205 (sp_is_met K) := has_is_met T C
  have h_law_is_met : Has P w K mg base _ _ 5 sp_law_is_met := has_law_is_met T
  have h_law_like_right : Has P w K mg base _ _ 212 (sp_law_like_right K P1 P2) := has_law_like_right T C M TM PG LF
  obtain ⟨fd, F⟩ := T.fn_law_right
  have hb : Binds K fd ["_law_tub_here"] [] := F.bindsN fun _ _ _ _ _ _ us hl => match us, hl with | [_], _ => rfl
  have hk := F.kp
  obtain ⟨oc, od, dV, kV, doc, pm, an, cdv, ct, osl, rfl, lk, hcd, _, _⟩ := F.ex
  obtain rfl : cdv = .ref c1 := LF.code1 _ _ lk rfl
  refine ⟨⟨_, fn_of lk hcd sc_law_right (fun vs H Q E h => ?_) (fun A outer s H vs Q E hr h => ?_), hb⟩, hk, T.g_law_right⟩
  · obtain ⟨t, rfl, _⟩ := h; rfl
  · obtain ⟨t, rfl, ht, hT, k⟩ := h
    have TB := LF.b1
    have hmT : ∀ q : Str, q = "_law_right.<locals>.<lambda>" → (P1, q) ∈ tabs P1 P2 := fun q e => by rw [e]; exact .head _
    have hu : ∀ q : Str, q = "_law_right.<locals>.<lambda>" → ∀ p ∈ tabs P1 P2, p.1 = P1 → p.2 = q := fun q e p hp hq => by
      rcases List.mem_cons.mp hp with rfl | hp
      · rw [e]
      · obtain rfl := List.mem_singleton.mp hp
        exact absurd hq.symm LF.ne
    refine ⟨_, PSs.nox (pss_cons (ps_set (i := 1) sc_law_right.nd rfl (Or.inl rfl) (pe_op op_add pe_int (pe_h h_law_pour (hr.mono (by decide)) pass0 (pa_cons (pv 0) (pa_cons pe_int pa_nil))))) (pss_cons (ps_set (i := 2) sc_law_right.nd rfl (Or.inl rfl) (pe_h h_law_least (hr.mono (by decide)) pass0 (pa_cons (pe_h h_law_members (hr.mono (by decide)) pass0 (pa_cons (pv 0) (pa_cons (pv 1) pa_nil))) pa_nil))) (pss_cons (ps_set (i := 2) sc_law_right.nd rfl (Or.inl rfl) (pe_ifExp (pt_cmpR op_eq (pe_h h_law_pour (hr.mono (by decide)) pass0 (pa_cons (pv 0) (pa_cons pe_int pa_nil))) pe_int (nomark _)) (pe_lst (pa_cons (pe_op op_repZ (pe_tup (pa_cons pe_int pa_nil)) (pv 1)) pa_nil)) (pv 2))) (pss_cons (ps_asg (pe_tup (pa_cons (pe_mk h_Lot (hr.mono (by decide)) pass0 (pa_cons (pv 1) (pa_cons (pe_tupleOf (by rfl) T.tuple_ (pv 2)) pa_nil))) (pa_cons (pe_fz (pe_h h_law_numerator (hr.mono (by decide)) pass0 (pa_cons (pv 1) (pa_cons (pv 2) pa_nil)))) (pa_cons (pe_h h_law_from (hr.mono (by decide)) pass0 (pa_cons (pv 1) (pa_cons (pv 2) pa_nil))) pa_nil)))) (pg_tup rfl (pgs_cons (pg_name (i := 6) sc_law_right.nd rfl (Or.inr rfl)) (pgs_cons (pg_name (i := 3) sc_law_right.nd rfl (Or.inl rfl)) (pgs_cons (pg_name (i := 4) sc_law_right.nd rfl (Or.inl rfl)) pgs_nil))))) (pss_cons (ps_if (pt_cmpR op_gt (pv 4) pe_int (nomark _)) (pss_cons (ps_if (pt_cmpR (op_neD hr.units) (pe_told (k := 207) T TM TB rfl (hmT _ rfl) (hu _ rfl) (hr.mono (by decide)) (LamX.lamS_by (by rfl)) rfl (fun _ _ _ _ _ => rfl) (fun A outer s H E f c' hr2 => pe_hx h_met_fromX (hr2.mono (by decide)) (passes_call (takes_of rfl rfl rfl rfl) fun _ _ _ _ h => h) (pa_cons (pv 6) pa_nil))) (pe_tup (pa_cons pe_str (pa_cons pe_int pa_nil))) (nomark _)) (pss_one (ps_ret pe_bl)) pss_nil) (pss_one (ps_ret (pe_cmpR (op_eqD hr.units) (pe_told (k := 207) T TM TB rfl (hmT _ rfl) (hu _ rfl) (hr.mono (by decide)) (LamX.lamS_by (by rfl)) rfl (fun _ _ _ _ _ => rfl) (fun A outer s H E f c' hr2 => pe_hx h_is_first_lotX (hr2.mono (by decide)) (passes_call (takes_of rfl rfl rfl rfl) fun _ _ _ _ h => h) (pa_cons (pv 6) pa_nil))) (pe_tup (pa_cons pe_str (pa_cons pe_int pa_nil))) (nomark _))))) pss_nil) (pss_cons (ps_if (pt_cmpR op_ne (pe_h h_met_from (hr.mono (by decide)) pass0 (pa_cons (pv 6) pa_nil)) (pv 4) (nomark _)) (pss_one (ps_ret pe_bl)) pss_nil) (pss_cons (ps_for PassesOwn.never rfl (pi_list (pe_lst (pa_cons pe_int (pa_cons pe_int (pa_cons (pv 4) (pa_cons (pe_op op_add (pv 4) pe_int) (pa_cons (pe_op op_add pe_int (pe_h h_law_pour (hr.mono (by decide)) pass0 (pa_cons (pv 0) (pa_cons pe_int pa_nil)))) (pa_cons (pe_callB (call_max2 rfl) (by rfl) T.max_ (by decide +kernel) (pa_cons pe_int (pa_cons (pe_op op_sub (pv 4) pe_int) pa_nil))) pa_nil)))))))) (pg_name (i := 5) sc_law_right.nd rfl (Or.inl rfl)) (pss_one (ps_if (PW.pt (pw_and (pt_cmpR op_lt (pv 5) pe_int (nomark _)) (pw_and1 (pt_cmpR op_ne (pe_h h_is_met (hr.mono (by decide)) pass0 (pa_cons (pv 6) (pa_cons (pv 5) pa_nil))) (pe_h h_law_is_met (hr.mono (by decide)) pass0 (pa_cons (pv 1) (pa_cons (pv 3) (pa_cons (pv 5) pa_nil)))) (nomark _))))) (pss_one (ps_ret pe_bl)) pss_nil))) (pss_one (ps_ret (pe_or (pe_cmpR op_gt (pv 4) pe_int (nomark _)) (pe_one (pe_h h_law_like_right (hr.mono (by decide)) pass0 (pa_cons (pv 1) (pa_cons (pv 2) (pa_cons (pv 6) (pa_cons (pv 4) pa_nil)))))))))))))))), ?_⟩
    refine q_pourAdd (n := 4) (t0 := t) (ea_cons (ev_var rfl) (ea_cons ev_c ea_nil)) ht (by decide) (by decide) (fun m v1 H1 hv1 hm e1 t1 => ?_)
    obtain ⟨n, hn, n1, n4⟩ : ∃ n : Nat, v1 = .int (n : Int) ∧ 1 ≤ n ∧ n ≤ 4 := ⟨m + 1, by rw [hv1]; show V.int (1 + (m : Int)) = _; congr 1; omega, by omega, by omega⟩
    subst hn
    refine q_leastDrawn (K := K) (n := n) (t0 := t) (ea_cons (ev_var rfl) (ea_cons (ev_var rfl) ea_nil)) t1 n1 n4 (fun a0 ys0 fs0 H2 e2 t2 ha0 pd0 d0 => ?_)
    refine q_ifDrawn (K := K) (n := n) (m := 20) (t0 := t) (a := a0) (ys := ys0) (fs := fs0) (ea_cons (ev_var rfl) (ea_cons ev_c ea_nil)) t2 (by decide) (by decide) n1 n4 rfl rfl ha0 (fun H3 e3 _ => sql_b t2 pd0 ha0 e3) pd0 d0 (fun a ys ls H3 e3 t3 ha pd dr => ?_)
    have hf := dr.fine
    have hst : Stb (fun H v => ∃ ls', Least ls ls' ∧ rTs K (rW K) ls' H v) := by
      intro H H' v k ⟨ls', h1, h2⟩
      exact ⟨ls', h1, rTs_stb (rW_stb K) k h2⟩
    have el : ∀ {H4 : Hp}, Ex H3 H4 → rL K rWh ls H4 (.ref a) := fun e4 => ⟨a, ys, rfl, ex_l e4 ha, pd.keep rWh_stb (Kp.ex e4)⟩
    have elW : ∀ {H4 : Hp}, Ex H3 H4 → rL K (rW K) ls H4 (.ref a) := fun e4 => ⟨a, ys, rfl, ex_l e4 ha, (pd.keep rWh_stb (Kp.ex e4)).impW⟩
    refine q_asgTri (R1 := rLo K n ls) (R2 := fun H v => ∃ N, (Num n ls N ∧ nd N ∧ N.length ≤ 1000) ∧ rD N H v) (R3 := fun _ v => ∃ g r : Nat, v = .int (r : Int) ∧ 1 ≤ g ∧ g ≤ 60 ∧ (∀ x ∈ ls, x.sum ≤ g) ∧ From (mt n ls) g r) ?_ ?_ ?_ (fun lot c v H4 H5 H6 H7 e4 hlot e5 hcnt e6 hlast e7 => ?_)
    · refine (evp_mkLot n1 (by omega) (R := fun H v => ∃ ls', Least ls ls' ∧ rTs K (rW K) ls' H v) hst (ev_var rfl) (evp_tupleN rWh_stb (evp_var rfl fun H4 e4 => el e4)) (fun v H4 H5 e4 ⟨p, vs, ev, hp, pdp⟩ e5 => ⟨n, p, vs, ls, by rw [ev], e5 _ _ hp, pdp.keep rWh_stb (Kp.ex e5), fun x hx => ⟨(dr.len x hx).1, fun k hk => by have := (dr.len x hx).2 k hk; omega⟩, n1, by omega, by have := dr.few; omega, rfl⟩)).imp fun H v hv => ?_
      obtain ⟨ls', h1, h2⟩ := rLot_get hv
      rw [h1.uniq dr.self] at h2
      exact h2
    · exact evp_fz (evd_call (ea_cons (ev_var rfl) (ea_cons (ev_var rfl) ea_nil)) (fun H4 e4 => ⟨ls, n, .ref a, rfl, elW e4, fun x hx => (dr.len x hx).1, n1, n4, by have := dr.few; omega, rfl⟩))
    · exact evp_call (ea_cons (ev_var rfl) (ea_cons (ev_var rfl) ea_nil)) (SpP.of fun H4 e4 => ⟨n, ls, .ref a, rfl, el e4, fun x hx => ⟨(dr.len x hx).1, by have := dr.sum x hx; omega⟩, by have := dr.few; omega, n1, n4, rfl⟩)
    obtain ⟨N, ⟨g1, g2, g3⟩, hc⟩ := hcnt
    obtain ⟨g, r, rfl, hg1, hg60, hgx, hfr⟩ := hlast
    have e37 : Ex H3 H7 := ((e4.trans e5).trans e6).trans e7
    have e07 : ExB t H H7 := ((e1.trans e2).trans e3).trans (ExB.ex e37)
    have hv7 := rLo_ex ((e5.trans e6).trans e7) hlot
    have hc7 := rD_ex (e6.trans e7) hc
    have t7 := t3.ex e37
    have hT7 : Tabs (tabs P1 P2) H7 := tabs_b ht e07 hT
    rcases from_down dr hg1 hgx hfr hg60 with ⟨rfl, h60⟩ | ⟨h60, hdn⟩
    · refine q_when (b := true) (et_is (et_test (ev_cmp (ev_var rfl) ev_c)) (decide_eq_true (by omega))) (fun _ H8 e8 => ?_) (fun z => by cases z)
      refine q_toldNe (hT7.ext e8) (fun H9 E9 e9 gn Q' => q_callX (sp := sp_met_fromX K CT) (ea_cons (ev_var (i := 6) (v := lot) rfl) ea_nil) fun H10 e10 => ⟨n, ls, lot, rfl, rLo_ex e10 (rLo_ext e9 (rLo_ex e8 hv7)), hf, h60, gn.ex e10⟩) (fun H9 e9 T9 => ?_)
      have hv9 := rLo_ext e9 (rLo_ex e8 hv7)
      refine s_toldEq T9 (fun H10 E10 e10 gn Q' => q_callX (sp := sp_is_first_lotX K CT) (ea_cons (ev_var (i := 6) (v := lot) rfl) ea_nil) fun H11 e11 => ⟨n, ls, lot, rfl, rLo_ex e11 (rLo_ext e10 hv9), hf, h60, gn.ex e11⟩) (fun H10 e10 T10 => ?_)
      exact k H10 (((ExT.b e07).trans (ExT.e e8)).trans (ExT.n (e9.trans e10))) (tub_n (e9.trans e10) (t7.ex e8)) T10
    · have r1 := hdn.f1
      have r60 := hdn.f60
      refine q_when (b := false) (et_is (et_test (ev_cmp (ev_var rfl) ev_c)) (decide_eq_false (by omega))) (fun z => by cases z) (fun _ H8 e8 => ?_)
      refine q_when (b := false) (et_is (et_test (ev_opNe (i := (r : Int)) (EvP.ev ((evp_call (ea_cons (ev_var rfl) ea_nil) (SpP.of fun H9 e9 => ⟨n, ls, lot, rfl, rLo_ex (e8.trans e9) hv7, hf, h60, rfl⟩)).imp fun H9 v9 ⟨f, ev, hd⟩ => by rw [ev, hd.uniq hdn])) (ev_var rfl))) (by rw [decide_eq_true rfl]; rfl)) (fun z => by cases z) (fun _ H9 e9 => ?_)
      have e79 := e8.trans e9
      have t9 := t7.ex e79
      refine q_forSix (i4 := 4) (r := r) (m := 20) (t0 := t) (b := max 1 (r - 1)) rfl (ea_cons (ev_var rfl) (ea_cons ev_c ea_nil)) t9 (by decide) (by decide) (fun H10 => ev_is (ev_max2 ev_c (ev_bin (ev_var rfl) ev_c)) ?_) (fun p z H10 hz hp e10 t10 hpt h10 => ?_)
      · congr 1
        by_cases c : (r : Int) - 1 > 1
        · rw [if_pos c]; omega
        · rw [if_neg c]; omega
      have e710 : ExB t H7 H10 := (ExB.ex e79).trans e10
      have hv10 : rLo K n ls H10 lot := rLo_b t9 e10 (rLo_ex e79 hv7)
      have hc10 : rD N H10 c := rD_b t9 e10 (rD_ex e79 hc7)
      have T10 : Tabs (tabs P1 P2) H10 := tabs_b t7 e710 hT7
      refine ⟨fun j σ' H' => ∃ x5, σ' = [some (.ref t), some (.int (n : Int)), some (.ref a), some c, some (.int (r : Int)), x5, some lot] ∧ Ex H10 H', ⟨_, rfl, Ex.refl _⟩, fun j σ' H' _ ⟨_, _, e⟩ => sq_of (e _ _ h10), ?_, ?_⟩
      · rintro j x σ' H' hjx ⟨x5, rfl, e⟩
        obtain ⟨d, rfl, d1, d2⟩ : ∃ d : Nat, x = .int (d : Int) ∧ 1 ≤ d ∧ d ≤ 61 := by
          have hx := List.mem_of_getElem? hjx
          simp only [List.mem_cons, List.not_mem_nil, or_false] at hx
          rcases hx with rfl | rfl | rfl | rfl | rfl | rfl
          · exact ⟨1, rfl, by omega, by omega⟩
          · exact ⟨2, rfl, by omega, by omega⟩
          · exact ⟨r, rfl, by omega, by omega⟩
          · exact ⟨r + 1, rfl, by omega, by omega⟩
          · exact ⟨1 + z, by congr 1, by omega, by omega⟩
          · exact ⟨max 1 (r - 1), rfl, by omega, by omega⟩
        refine s_when (b := decide (d < 61) && false) (et_and (et_is (et_test (ev_cmp (ev_var rfl) ev_c)) (natlt _ _)) (fun zz => et_test (ev_neBl (evp_call (ea_cons (ev_var rfl) (ea_cons (ev_var rfl) ea_nil)) (SpP.of fun H11 e11 => ⟨n, d, ls, lot, rfl, rLo_ex (e.trans e11) hv10, hf, d1, by have := of_decide_eq_true zz; omega, rfl⟩)) (evp_call (ea_cons (ev_var rfl) (ea_cons (ev_var rfl) (ea_cons (ev_var rfl) ea_nil))) (SpP.of fun H11 e11 => ⟨n, d, ls, N, c, rfl, rD_ex (e.trans e11) hc10, g1, g2, g3, n1, n4, d1, by omega, rfl⟩)) (fun H11 H12 v u h1 h2 => ⟨_, h1, h2⟩)))) (fun zz => by rw [Bool.and_false] at zz; cases zz) (fun _ H11 e11 => ⟨_, rfl, e.trans e11⟩)
      · rintro σ' H' ⟨x5, rfl, e⟩
        have e0 : ExT t H H' := ((ExT.b e07).trans (ExT.b e710)).trans (ExT.e e)
        refine (ev_cmp (ev_var (i := 4) rfl) ev_c) H' (Ex.refl H') _ fun H11 e11 => ⟨decide ((r : Int) > 7), rfl, ?_⟩
        by_cases c7 : (r : Int) > 7
        · rw [if_pos (decide_eq_true c7)]
          exact k H11 (e0.trans (ExT.e e11)) ((t10.ex e).ex e11) ((T10.ext e).ext e11)
        · rw [if_neg (by rw [decide_eq_false c7]; decide)]
          have e12 := e.trans e11
          have el11 : SqL K H10 a ys := sql_b t9 (pd.keep rWh_stb (Kp.ex (e37.trans e79))) (ex_l (e37.trans e79) ha) e10
          have pd11 : Pd rWh H10 ys ls := (pd.keep rWh_stb (Kp.ex (e37.trans e79))).keep rWh_stb (ExB.kp t9 e10)
          refine q_callX (sp := sp_law_like_right K P1 P2) (ea_cons (ev_var (i := 1) rfl) (ea_cons (ev_var (i := 2) rfl) (ea_cons (ev_var (i := 6) rfl) (ea_cons (ev_var (i := 4) rfl) ea_nil)))) fun H12 e13 => ⟨n, r, ls, a, ys, lot, rfl, ex_l (e12.trans e13) el11, pd11.keep rWh_stb (Kp.ex (e12.trans e13)), rLo_ex (e12.trans e13) hv10, hf, dr.ok, h60, hdn, by omega, dr.self.asc, by have := dr.few; omega, T10.ext (e12.trans e13), fun H14 e14 T14 => ?_⟩
          exact k H14 ((e0.trans (ExT.e (e11.trans e13))).trans (ExT.n e14)) (tub_n e14 (t10.ex (e12.trans e13))) T14
end
end PLW
end
section
set_option Elab.async false
set_option linter.all false
set_option maxRecDepth 100000
set_option maxHeartbeats 2000000
namespace PLW
open PySem PySem.Spec PyProof.Rows L2 Evl RZ
open PL PySem.W SlX
/-! the lots that the law names -/
def lE : List (List Nat) := [[0, 0, 1, 1], [0, 1, 1, 0], [1, 1, 0, 0]]
def lF : List (List Nat) := [[0, 3, 1, 0], [0, 4, 0, 0], [1, 0, 0, 2], [1, 0, 1, 0], [1, 1, 0, 0], [2, 0, 0, 0]]
def lG : List (List Nat) := [[0, 3], [1, 1], [2, 0]]
def lP : List (List Nat) := [[0, 4], [2, 0]]
def leB (x y : List Nat) : Bool := decide (wI x ≤ wI y)
/-- least ones, by a look at all of them -/
def leastB (ms ls : List (List Nat)) : Bool := decide (ls.Pairwise fun x y => wI x ≤ wI y) && decide ls.Nodup && ls.all (fun x => ms.contains x && ms.all fun y => !dv y x || decide (y = x)) && ms.all fun x => ls.contains x || ms.any fun y => dv y x && !decide (y = x)
theorem leastB_ok {ms ls : List (List Nat)} (h : leastB ms ls = true) : Least ms ls := by
  unfold leastB at h
  simp only [Bool.and_eq_true, decide_eq_true_eq] at h
  obtain ⟨⟨⟨h1, h2⟩, h3⟩, h4⟩ := h
  refine ⟨h1, h2, fun x => ⟨fun hx => ?_, fun hx => ?_⟩⟩
  · have h := List.all_eq_true.mp h3 x hx
    rw [Bool.and_eq_true] at h
    refine ⟨List.contains_iff_mem.mp h.1, fun y hy hd => ?_⟩
    have g := List.all_eq_true.mp h.2 y hy
    rw [hd] at g
    simpa using g
  · have h := List.all_eq_true.mp h4 x hx.1
    rcases Bool.or_eq_true_iff.mp h with g | g
    · exact List.contains_iff_mem.mp g
    · obtain ⟨y, hy, g2⟩ := List.any_eq_true.mp g
      rw [Bool.and_eq_true] at g2
      have := hx.2 y hy g2.1
      rw [decide_eq_true this] at g2
      cases g2.2
theorem least_E : Least [[1, 1, 0, 0], [0, 1, 1, 0], [0, 0, 1, 1]] lE := leastB_ok (by decide +kernel)
theorem least_G : Least [[2, 0], [1, 1], [0, 3]] lG := leastB_ok (by decide +kernel)
theorem least_P : Least [[2, 0], [0, 4]] lP := leastB_ok (by decide +kernel)
theorem mt_E3 : mt 4 lE 3 = false := by decide +kernel
theorem mt_E4 : mt 4 lE 4 = true := by decide +kernel
theorem mt_G2 : mt 2 lG 2 = false := by decide +kernel
theorem mt_G3 : mt 2 lG 3 = true := by decide +kernel
theorem mt_P3 : mt 2 lP 3 = false := by decide +kernel
def fineB (n : Nat) (ls : List (List Nat)) : Bool := decide (1 ≤ n) && decide (n ≤ 4) && ls.all (fun x => decide (x.length = n) && x.all fun k => decide (k ≤ 8)) && decide (ls.length ≤ 24) && decide (sumsW ls ≤ 200)
theorem fineB_ok {n : Nat} {ls : List (List Nat)} (h : fineB n ls = true) : Fine n ls := by
  unfold fineB at h
  simp only [Bool.and_eq_true, decide_eq_true_eq] at h
  obtain ⟨⟨⟨⟨h1, h2⟩, h3⟩, h4⟩, h5⟩ := h
  refine ⟨h1, h2, fun x hx => ?_, h4, h5⟩
  have g := List.all_eq_true.mp h3 x hx
  rw [Bool.and_eq_true, decide_eq_true_eq] at g
  exact ⟨g.1, fun k hk => of_decide_eq_true (List.all_eq_true.mp g.2 k hk)⟩
theorem fine_E : Fine 4 lE := fineB_ok (by decide +kernel)
theorem fine_G : Fine 2 lG := fineB_ok (by decide +kernel)
theorem fine_P : Fine 2 lP := fineB_ok (by decide +kernel)
theorem ok_E : Ok0 4 lE := .inr (by decide +kernel)
theorem ok_G : Ok0 2 lG := .inr (by decide +kernel)
/-- met at f behind the members: met for ever -/
theorem met_up {n : Nat} {ls : List (List Nat)} (hf : Fine n ls) {f : Nat} (f0 : 0 < f) (hs : ∀ x ∈ ls, x.sum ≤ f) (h : mt n ls f = true) : ∀ d, f ≤ d → mt n ls d = true := fun d => by
  induction d with
  | zero => intro h'; omega
  | succ d ih =>
    intro h'
    by_cases c : f = d + 1
    · rw [← c]; exact h
    · exact mt_iff.mpr (met_on hf.n1 hf.n4 (fun x hx => (hf.len x hx).1) (by omega) (fun x hx => by have := hs x hx; omega) (mt_iff.mp (ih (by omega))))
theorem up_E : ∀ d, 4 ≤ d → mt 4 lE d = true := met_up fine_E (by decide) (by decide +kernel) mt_E4
theorem up_G : ∀ d, 3 ≤ d → mt 2 lG d = true := met_up fine_G (by decide) (by decide +kernel) mt_G3
theorem down_E : Down (mt 4 lE) 4 := ⟨by decide, by decide, fun d h _ => up_E d h, .inr mt_E3⟩
theorem down_G : Down (mt 2 lG) 3 := ⟨by decide, by decide, fun d h _ => up_G d h, .inr mt_G2⟩
/-- the list of words, by the number of letters -/
def wS : Nat → Nat → List (List Nat)
  | 0 => fun d => match d with
    | 0 => [[]]
    | _ + 1 => []
  | n + 1 => fun d => Nat.rec (motive := fun _ => List (List Nat)) ((wS n 0).map (0 :: ·)) (fun d r => r.map inc ++ (wS n (d + 1)).map (0 :: ·)) d
theorem words_wS : ∀ n d, words n d = wS n d
  | 0, 0 => by rw [words]; rfl
  | 0, d + 1 => by rw [words]; rfl
  | n + 1, d => by
    induction d with
    | zero => rw [words, words_wS n 0]; rfl
    | succ d ih => rw [words, ih, words_wS n (d + 1)]; rfl
def dueS (n : Nat) (a : Nat → Nat) : Nat → List (List Nat)
  | 0 => []
  | d + 1 => dueS n a d ++ ((wS n (d + 1)).take (a (d + 1))).drop (PL.F n (a d))
theorem due_dueS (n : Nat) (a : Nat → Nat) : ∀ d, due n a d = dueS n a d
  | 0 => rfl
  | d + 1 => by
    rw [due, due_dueS n a d]
    unfold dueAt
    rw [words_wS]
    rfl
theorem frs_E : frs 4 lE 4 = [[2, 0, 0, 0], [1, 1, 0, 0], [1, 0, 1, 0], [1, 0, 0, 2], [0, 4, 0, 0], [0, 3, 1, 0]] := by
  unfold frs
  rw [if_neg (by decide), due_dueS]
  decide +kernel
theorem frs_G : frs 2 lG 3 = [[2, 0], [1, 1], [0, 3]] := by
  unfold frs
  rw [if_neg (by decide), due_dueS]
  decide +kernel
theorem least_F : Least (frs 4 lE 4) lF := by rw [frs_E]; exact leastB_ok (by decide +kernel)
end PLW
end
section
set_option Elab.async false
set_option linter.all false
set_option maxRecDepth 100000
set_option maxHeartbeats 2000000
namespace PLW
open PySem PySem.Spec PyProof.Rows L2 Evl RZ
open PL PySem.W SlX
open PySem.TMX (TmTxt PgOk)
open LamX (TabB TabS LamS tLam lamEnv lamCx Tabs ExtN CodeO)
section
variable {K : PySem.W.Frag} {P : Program} {w : World} {mg : Str → Option Value} {σ : L2.St} {H H' : Hp} {ta tb tc te tl td ty : TE} {D : Ends} {tz tu : TS} {i j l n : Nat} {R R' R1 R2 R3 : Rl} {t : TA} {g : TG}
theorem ev_min2 {i j : Int} (ha : Ev ta σ H (.int i)) (hb : Ev tb σ H (.int j)) : Ev (tCB (fun xs H Q => ∃ i j : Int, xs = [V.int i, V.int j] ∧ Q (V.int (if j < i then j else i)) H) (tCons ta (tCons tb tNil))) σ H (.int (if j < i then j else i)) := fun H1 e Q q =>
  ha H1 e _ fun H2 e2 => hb H2 (e.trans e2) _ fun H3 e3 => ⟨i, j, rfl, q H3 (e2.trans e3)⟩
/-- some words, each told -/
def EvW (t : TA) (σ : L2.St) (H : Hp) (ms : List (List Nat)) : Prop := ∀ H1, Ex H H1 → ∀ Q : List V → Hp → Prop, (∀ vs H2, Ex H1 H2 → Pd rWh H2 vs ms → Q vs H2) → t σ H1 Q
theorem ew_nil : EvW tNil σ H [] := fun H1 _ _ q => q [] H1 (Ex.refl H1) Pd.nil
theorem ew_cons {m : List Nat} {ms : List (List Nat)} (h : EvP te σ H (rWh m)) (hr : EvW t σ H ms) : EvW (tCons te t) σ H (m :: ms) := fun H1 e Q q =>
  h H1 e _ fun v H2 e2 hv => hr H2 (e.trans e2) _ fun vs H3 e3 pd => q (v :: vs) H3 (e2.trans e3) (Pd.append (Pd.snoc Pd.nil (rWh_stb m (Kp.ex e3) hv)) pd)
/-- a new tuple of words -/
def rTn (ms : List (List Nat)) : Rl := fun H v => ∃ p vs, v = .ref p ∧ H p = some (.tup vs) ∧ Pd rWh H vs ms
theorem evp_tups {ms : List (List Nat)} (h : EvW t σ H ms) (hl : ms.length ≤ 100000) : EvP (tTup t) σ H (rTn ms) := fun H1 e Q q =>
  h H1 e _ fun vs H2 e2 pd => ⟨sz_of (by rw [pd.1]; exact hl), fun p hp => q _ _ (e2.trans (Ex.new hp)) ⟨p, vs, rfl, upd_same, pd.keep rWh_stb (Kp.ex (Ex.new hp))⟩⟩
theorem rTn_Ts {ms : List (List Nat)} {v : V} (h : rTn ms H v) : rTs K (rW K) ms H v := by
  obtain ⟨p, vs, ev, hp, pd⟩ := h
  exact ⟨p, vs, ev, st_of hp, pd.impW⟩
theorem rTn_ex {ms : List (List Nat)} {v : V} (e : Ex H H') (h : rTn ms H v) : rTn ms H' v := by
  obtain ⟨p, vs, ev, hp, pd⟩ := h
  exact ⟨p, vs, ev, e _ _ hp, pd.keep rWh_stb (Kp.ex e)⟩
/-- Lot(n, members) -/
theorem evp_lotOf {ms ls : List (List Nat)} (n1 : 1 ≤ n) (n8 : n ≤ 8) (hm : ∀ x ∈ ms, x.length = n ∧ ∀ k ∈ x, k ≤ 8) (hz : ms.length ≤ 24) (hl : Least ms ls) (h : EvP tb σ H (rTn ms)) :
    EvP (tMake (He.ga K "Lot") (sp_Lot K fun vs H R => ∃ (n : Nat) (a : Addr) (xs : List V) (ms : List (List Nat)), vs = [.int (n : Int), .ref a] ∧ H a = some (.tup xs) ∧ Pd rWh H xs ms ∧ (∀ x ∈ ms, x.length = n ∧ ∀ k ∈ x, k ≤ 8) ∧ 1 ≤ n ∧ n ≤ 8 ∧ ms.length ≤ 24 ∧ R = fun H v => ∃ ls, Least ms ls ∧ rTs K (rW K) ls H v) [] E0 (tCons (tC (.int (n : Int))) (tCons tb tNil))) σ H (rLo K n ls) := by
  have hst : Stb (fun H v => ∃ ls', Least ms ls' ∧ rTs K (rW K) ls' H v) := by
    intro H H' v k ⟨ls', h1, h2⟩
    exact ⟨ls', h1, rTs_stb (rW_stb K) k h2⟩
  refine (evp_mkLot n1 n8 (R := fun H v => ∃ ls', Least ms ls' ∧ rTs K (rW K) ls' H v) hst ev_c h (fun v H4 H5 e4 ⟨p, vs, ev, hp, pdp⟩ e5 => ⟨n, p, vs, ms, by rw [ev], e5 _ _ hp, pdp.keep rWh_stb (Kp.ex e5), hm, n1, n8, hz, rfl⟩)).imp fun H v hv => ?_
  obtain ⟨ls', h1, h2⟩ := rLot_get hv
  rw [h1.uniq hl] at h2
  exact h2
/-- is_met, met_from, is_first_lot of a known lot -/
theorem ev_metOf {ls : List (List Nat)} {d : Nat} {b : Bool} (hf : Fine n ls) (d1 : 1 ≤ d) (d60 : d ≤ 60) (hm : mt n ls d = b) (h : EvP ta σ H (rLo K n ls)) : Ev (tCall (sp_is_met K) [] E0 (tCons ta (tCons (tC (.int (d : Int))) tNil))) σ H (.bl b) := fun H1 e Q q =>
  h H1 e _ fun v H2 e2 hv => ⟨_, ⟨n, d, ls, v, rfl, hv, hf, d1, d60, rfl⟩, fun u H3 e3 hu => by
    rw [show u = .bl (mt n ls d) from hu, hm]
    exact q H3 (e2.trans e3)⟩
theorem ev_fromOf {ls : List (List Nat)} {f : Nat} (hf : Fine n ls) (h60 : mt n ls 60 = true) (hd : Down (mt n ls) f) (h : EvP ta σ H (rLo K n ls)) : Ev (tCall (sp_met_from K) [] E0 (tCons ta tNil)) σ H (.int (f : Int)) := fun H1 e Q q =>
  h H1 e _ fun v H2 e2 hv => ⟨_, ⟨n, ls, v, rfl, hv, hf, h60, rfl⟩, fun u H3 e3 ⟨f', eu, hd'⟩ => by
    rw [eu, hd'.uniq hd]
    exact q H3 (e2.trans e3)⟩
theorem ev_firstOf {ls : List (List Nat)} {f : Nat} {b : Bool} (hf : Fine n ls) (h0 : Ok0 n ls) (h60 : mt n ls 60 = true) (hd : Down (mt n ls) f) (hb : ∀ so, so.Perm (frs n ls f) → so.Pairwise leW → decide (so = ls) = b) (h : EvP ta σ H (rLo K n ls)) : Ev (tCall (sp_is_first_lot K) [] E0 (tCons ta tNil)) σ H (.bl b) := fun H1 e Q q =>
  h H1 e _ fun v H2 e2 hv => ⟨_, ⟨n, f, ls, v, rfl, hv, hf, h0, h60, hd, rfl⟩, fun u H3 e3 ⟨so, s1, s2, eu⟩ => by
    rw [eu, hb so s1 s2]
    exact q H3 (e2.trans e3)⟩
theorem first_G (so : List (List Nat)) (h1 : so.Perm (frs 2 lG 3)) (h2 : so.Pairwise leW) : decide (so = lG) = true := by
  rw [frs_G] at h1
  exact decide_eq_true (perm_asc (h1.trans (by decide)) h2 least_G.asc)
theorem first_E (so : List (List Nat)) (h1 : so.Perm (frs 4 lE 4)) (h2 : so.Pairwise leW) : decide (so = lE) = false := by
  rw [frs_E] at h1
  refine decide_eq_false fun z => ?_
  have := h1.length_eq
  rw [z] at this
  exact absurd this (by decide)
theorem q_tub {a : Addr} {ns : List Int} {kk : Nat} (h : EvA t σ H [.ref a, .int (kk : Int)]) (ha : SqL K H a (ns.map V.int)) (hk : kk < 100) (k : ∀ t0 H2, H t0 = none → Ex H H2 → Tub H2 t0 → tz D (σ.set i (some (.ref t0))) H2) : tSeq (tAsg (tCall (sp_law_tub K) [] E0 t) (gName i)) tz D σ H :=
  h H (Ex.refl H) _ fun H1 e1 => ⟨a, ns, kk, rfl, ex_l e1 ha, hk, fun t0 H2 ht e2 h2 => k t0 H2 (fresh_back e1 ht) (e1.trans e2) h2⟩
theorem s_right {P1 P2 t0 : Addr} (h : EvA t σ H [.ref t0]) (ht : Tub H t0) (hT : Tabs (tabs P1 P2) H) (k : ∀ H2, ExT t0 H H2 → Tub H2 t0 → Tabs (tabs P1 P2) H2 → D.nx σ H2) : tIfS (tNot (tB (tCall (sp_law_right P1 P2) [] E0 t))) tu tNext D σ H :=
  h H (Ex.refl H) _ fun H1 e1 => ⟨t0, rfl, ht.ex e1, hT.ext e1, fun H2 e2 t2 T2 => ⟨true, rfl, by
    show D.nx σ H2
    exact k H2 ((ExT.e e1).trans e2) t2 T2⟩⟩
theorem sql_t {t0 a : Addr} {H1 H2 : Hp} {xs : List V} (h : SqL K H a xs) (e : Ex H H1) (hn : H t0 = none) (e2 : ExT t0 H1 H2) : SqL K H2 a xs := by
  rcases h with (h | ⟨o, h⟩) | h
  · exact .inl (.inl (e2 _ _ (fun c => by rw [c, hn] at h; cases h) (e _ _ h) fun _ z => by cases z))
  · exact .inl (.inr ⟨o, e2 _ _ (fun c => by rw [c, hn] at h; cases h) (e _ _ h) fun _ z => by cases z⟩)
  · exact .inr h
end
section
variable {P : Program} {w : World} {K : PySem.W.Frag} {mg : Str → Option Value} {base : Heap} {CT fI cc c1 P1 c2 P2 : Addr}
def sp_law (K : PySem.W.Frag) (P1 P2 : Addr) : Sp := fun vs H Q _ => ∃ (a : Addr) (ns : List Int), vs = [.ref a] ∧ SqL K H a (ns.map V.int) ∧ Tabs (tabs P1 P2) H ∧ ∀ H2, Q (.bl true) H2
abbrev N_law : List Str := ["_law_script", "_law_spot", "_law_tub_here", "_law_turn", "_law_edges", "_law_told_here", "_law_due_here"]
theorem sc_law : FnScope N_law ["_law_script"] (defScope s_law) := ⟨rfl, rfl, rfl, by decide +kernel, rfl, by decide +kernel, by decide +kernel⟩
theorem law_ok {fd : FuncData} (T : Tx K mg) (C : Cl K mg) (M : ClM K) (TM : TmTxt K mg CT fI cc) (PG : PgOk P) (LF : LamF K mg base c1 P1 c2 P2) (F : FunD K "law" "law" (defArgs s_law) (defBody s_law) (defScope s_law) [] [] (He.ga K "law") fd) : FnOk P w K mg base CX0 218 (He.ga K "law") fd ["_law_script"] (sp_law K P1 P2) := by
  have h_law_tub : Has P w K mg base _ _ 1 (sp_law_tub K) := has_law_tub T
  have h_law_right : Has P w K mg base _ _ 215 (sp_law_right P1 P2) := has_law_right T C M TM PG LF
  have h_Lot := has_Lot T C (has_told_tup (P := P) (w := w) (base := base) T C)
  have h_met_from : Has P w K mg base _ _ 206 (sp_met_from K) := has_met_from T C
  have h_is_met : Has P w K mg base _ _ 205 (sp_is_met K) := has_is_met T C
  have h_is_first_lot : Has P w K mg base _ _ 207 (sp_is_first_lot K) := has_is_first_lot T C
  have h_first_lot_like : Has P w K mg base _ _ 207 (sp_first_lot_like K) := has_first_lot_like T C
  refine F.ok sc_law (fun vs H Q E h => ?_) (fun cdv A outer s H vs Q E hr h => ?_)
  · obtain ⟨a, ns, rfl, _⟩ := h; rfl
  · obtain ⟨a, ns, rfl, ha, hT, k⟩ := h
    refine ⟨_, PSs.nox (pss_cons (ps_for PassesOwn.never rfl (pi_range1 (by rfl) T.range_ (pa_cons (pe_callB (call_max2 rfl) (by rfl) T.max_ (by decide +kernel) (pa_cons pe_int (pa_cons (pe_callB (call_min2 rfl) (by rfl) T.min_ (by decide +kernel) (pa_cons pe_int (pa_cons (pe_callB call_len_seq (by rfl) T.len_ (by decide +kernel) (pa_cons (pv 0) pa_nil)) pa_nil))) pa_nil))) pa_nil)) (pg_name (i := 1) sc_law.nd rfl (Or.inl rfl)) (pss_cons (ps_set (i := 2) sc_law.nd rfl (Or.inl rfl) (pe_h h_law_tub (hr.mono (by decide)) pass0 (pa_cons (pv 0) (pa_cons (pv 1) pa_nil)))) (pss_one (ps_for PassesOwn.never rfl (pi_range1 (by rfl) T.range_ (pa_cons pe_int pa_nil)) (pg_name (i := 3) sc_law.nd rfl (Or.inl rfl)) (pss_one (ps_if (pt_not (pt_val (pe_h h_law_right (hr.mono (by decide)) pass0 (pa_cons (pv 2) pa_nil)))) (pss_one (ps_ret pe_bl)) pss_nil)))))) (pss_cons (ps_set (i := 4) sc_law.nd rfl (Or.inl rfl) (pe_mk h_Lot (hr.mono (by decide)) pass0 (pa_cons pe_int (pa_cons (pe_tup (pa_cons (pe_tup (pa_cons pe_int (pa_cons pe_int (pa_cons pe_int (pa_cons pe_int pa_nil))))) (pa_cons (pe_tup (pa_cons pe_int (pa_cons pe_int (pa_cons pe_int (pa_cons pe_int pa_nil))))) (pa_cons (pe_tup (pa_cons pe_int (pa_cons pe_int (pa_cons pe_int (pa_cons pe_int pa_nil))))) pa_nil)))) pa_nil)))) (pss_cons (ps_set (i := 5) sc_law.nd rfl (Or.inl rfl) (pe_lst (pa_cons (pe_h h_is_met (hr.mono (by decide)) pass0 (pa_cons (pv 4) (pa_cons pe_int pa_nil))) (pa_cons (pe_h h_is_met (hr.mono (by decide)) pass0 (pa_cons (pv 4) (pa_cons pe_int pa_nil))) (pa_cons (pe_h h_met_from (hr.mono (by decide)) pass0 (pa_cons (pv 4) pa_nil)) (pa_cons (pe_h h_is_first_lot (hr.mono (by decide)) pass0 (pa_cons (pe_mk h_Lot (hr.mono (by decide)) pass0 (pa_cons pe_int (pa_cons (pe_tup (pa_cons (pe_tup (pa_cons pe_int (pa_cons pe_int pa_nil))) (pa_cons (pe_tup (pa_cons pe_int (pa_cons pe_int pa_nil))) (pa_cons (pe_tup (pa_cons pe_int (pa_cons pe_int pa_nil))) pa_nil)))) pa_nil))) pa_nil)) pa_nil)))))) (pss_cons (ps_expr (pe_bm PySem.F.plainAttrs_list PySem.F.slot_list_append PySem.F.type_list_append mt_append (pv 5) (pa_cons (pe_h h_is_first_lot (hr.mono (by decide)) pass0 (pa_cons (pv 4) pa_nil)) pa_nil))) (pss_cons (ps_if (pt_cmpR (op_neD hr.units) (pv 5) (pe_lst (pa_cons pe_bl (pa_cons pe_bl (pa_cons pe_int (pa_cons pe_bl (pa_cons pe_bl pa_nil)))))) (nomark _)) (pss_one (ps_ret pe_bl)) pss_nil) (pss_cons (ps_set (i := 6) sc_law.nd rfl (Or.inl rfl) (pe_tup (pa_cons (pe_tup (pa_cons pe_int (pa_cons pe_int (pa_cons pe_int (pa_cons pe_int pa_nil))))) (pa_cons (pe_tup (pa_cons pe_int (pa_cons pe_int (pa_cons pe_int (pa_cons pe_int pa_nil))))) (pa_cons (pe_tup (pa_cons pe_int (pa_cons pe_int (pa_cons pe_int (pa_cons pe_int pa_nil))))) (pa_cons (pe_tup (pa_cons pe_int (pa_cons pe_int (pa_cons pe_int (pa_cons pe_int pa_nil))))) (pa_cons (pe_tup (pa_cons pe_int (pa_cons pe_int (pa_cons pe_int (pa_cons pe_int pa_nil))))) (pa_cons (pe_tup (pa_cons pe_int (pa_cons pe_int (pa_cons pe_int (pa_cons pe_int pa_nil))))) pa_nil)))))))) (pss_one (ps_ret (pe_and (pe_cmpR (op_eqD hr.units) (pe_members C M (pe_h h_first_lot_like (hr.mono (by decide)) pass0 (pa_cons (pv 4) pa_nil)) (hr.mono (by decide))) (pv 6) (nomark _)) (pe_one (pe_not (pe_h h_is_met (hr.mono (by decide)) pass0 (pa_cons (pe_mk h_Lot (hr.mono (by decide)) pass0 (pa_cons pe_int (pa_cons (pe_tup (pa_cons (pe_tup (pa_cons pe_int (pa_cons pe_int pa_nil))) (pa_cons (pe_tup (pa_cons pe_int (pa_cons pe_int pa_nil))) pa_nil))) pa_nil))) (pa_cons pe_int pa_nil)))))))))))))), ?_⟩
    refine q_forR1 (n := ((max 1 (min 3 ns.length) : Nat) : Int)) (ea_cons (ev_is (ev_max2 ev_c (ev_min2 ev_c (ev_lenL (ev_var rfl) ha))) ?_) ea_nil) ⟨by omega, by omega⟩ (fun j σ' H' => ∃ x1 x2 x3, σ' = [some (.ref a), x1, x2, x3, none, none, none] ∧ SqL K H' a (ns.map V.int) ∧ Tabs (tabs P1 P2) H') (fun H1 e1 => ⟨none, none, none, rfl, ex_l e1 ha, hT.ext e1⟩) ?_ ?_
    · congr 1
      rw [List.length_map]
      split <;> split at * <;> omega
    · rintro j σ' H' hj ⟨x1, x2, x3, rfl, ha', hT'⟩
      refine q_tub (a := a) (ns := ns) (kk := j) (ea_cons (ev_var rfl) (ea_cons (ev_var rfl) ea_nil)) ha' (by omega) (fun t0 H1 ht0 e1 t1 => ?_)
      refine s_forR1 (n := 2) (ea_cons ev_c ea_nil) (by omega) (fun l σ'' H'' => ∃ x3, σ'' = [some (.ref a), some (.int (j : Int)), some (.ref t0), x3, none, none, none] ∧ ExT t0 H1 H'' ∧ Tub H'' t0 ∧ Tabs (tabs P1 P2) H'') (fun H2 e2 => ⟨x3, rfl, ExT.e e2, t1.ex e2, (hT'.ext e1).ext e2⟩) ?_ ?_
      · rintro l σ'' H'' hl ⟨y3, rfl, e2, t2, T2⟩
        exact s_right (t0 := t0) (ea_cons (ev_var rfl) ea_nil) t2 T2 (fun H3 e3 t3 T3 => ⟨_, rfl, e2.trans e3, t3, T3⟩)
      · rintro σ'' H'' ⟨y3, rfl, e2, t2, T2⟩
        exact ⟨_, _, _, rfl, sql_t ha' e1 ht0 e2, T2⟩
    · rintro σ' H1 ⟨x1, x2, x3, rfl, _, _⟩
      have tw : ∀ {σ : L2.St} {H : Hp} {a b c d : Nat}, EvP (tTup (tCons (tC (.int (a : Int))) (tCons (tC (.int (b : Int))) (tCons (tC (.int (c : Int))) (tCons (tC (.int (d : Int))) tNil))))) σ H (rWh [a, b, c, d]) := fun {σ H a b c d} => evp_tupWh (ea_cons ev_c (ea_cons ev_c (ea_cons ev_c (ea_cons ev_c ea_nil)))) rfl (by simp)
      have tv : ∀ {σ : L2.St} {H : Hp} {a b : Nat}, EvP (tTup (tCons (tC (.int (a : Int))) (tCons (tC (.int (b : Int))) tNil))) σ H (rWh [a, b]) := fun {σ H a b} => evp_tupWh (ea_cons ev_c (ea_cons ev_c ea_nil)) rfl (by simp)
      refine q_asgP (Rr := rLo K 4 lE) (evp_lotOf (n := 4) (ms := [[1, 1, 0, 0], [0, 1, 1, 0], [0, 0, 1, 1]]) (by decide) (by decide) (by decide) (by decide) least_E (evp_tups (ew_cons (tw (a := 1) (b := 1) (c := 0) (d := 0)) (ew_cons (tw (a := 0) (b := 1) (c := 1) (d := 0)) (ew_cons (tw (a := 0) (b := 0) (c := 1) (d := 1)) ew_nil))) (by decide))) (fun eg H2 e2 hE => ?_)
      have vE : ∀ {σ : L2.St} {H3 : Hp} {i : Nat}, Ex H2 H3 → σ[i]? = some (some eg) → EvP (tVar i) σ H3 (rLo K 4 lE) := fun {σ H3 i} e3 hi => evp_var hi fun H4 e4 => rLo_ex (e3.trans e4) hE
      have lG_ : ∀ {σ : L2.St} {H3 : Hp}, EvP _ σ H3 (rLo K 2 lG) := fun {σ H3} => evp_lotOf (K := K) (n := 2) (ms := [[2, 0], [1, 1], [0, 3]]) (by decide) (by decide) (by decide) (by decide) least_G (evp_tups (ew_cons (tv (a := 2) (b := 0)) (ew_cons (tv (a := 1) (b := 1)) (ew_cons (tv (a := 0) (b := 3)) ew_nil))) (by decide))
      have lP_ : ∀ {σ : L2.St} {H3 : Hp}, EvP _ σ H3 (rLo K 2 lP) := fun {σ H3} => evp_lotOf (K := K) (n := 2) (ms := [[2, 0], [0, 4]]) (by decide) (by decide) (by decide) (by decide) least_P (evp_tups (ew_cons (tv (a := 2) (b := 0)) (ew_cons (tv (a := 0) (b := 4)) ew_nil)) (by decide))
      refine q_asgL (xs := [.bl false, .bl true, .int 4, .bl true]) (el_lst (ea_cons (ev_metOf (d := 3) fine_E (by decide) (by decide) mt_E3 (vE (Ex.refl _) rfl)) (ea_cons (ev_metOf (d := 4) fine_E (by decide) (by decide) mt_E4 (vE (Ex.refl _) rfl)) (ea_cons (ev_fromOf (f := 4) fine_E (up_E 60 (by decide)) down_E (vE (Ex.refl _) rfl)) (ea_cons (ev_firstOf fine_G ok_G (up_G 60 (by decide)) down_G first_G lG_) ea_nil)))) (by decide)) (fun l H3 hl e3 h3 => ?_)
      refine q_app (l := l) h3 (ev_var rfl) (ev_firstOf fine_E ok_E (up_E 60 (by decide)) down_E first_E (vE e3 rfl)) (by decide) (fun H4 e4 => ?_)
      have e25 : Ex H2 (upd H4 l (.lst ([.bl false, .bl true, .int 4, .bl true] ++ [.bl false]))) := Ex.mut (e3.trans e4) hl
      have h5 : (upd H4 l (.lst ([.bl false, .bl true, .int 4, .bl true] ++ [.bl false]))) l = some (.lst [.bl false, .bl true, .int 4, .bl true, .bl false]) := upd_same
      generalize (upd H4 l (.lst ([.bl false, .bl true, .int 4, .bl true] ++ [.bl false]))) = H5 at e25 h5
      have dl : ∀ {H : Hp} {p : Addr}, H p = some (.lst [.bl false, .bl true, .int 4, .bl true, .bl false]) → Dp K H (.ref p) (.list [.bool false, .bool true, .int 4, .bool true, .bool false]) := fun h => .lst (sq_of h) (.cons (.bl _) (.cons (.bl _) (.cons (.int _) (.cons (.bl _) (.cons (.bl _) .nil)))))
      refine q_when (b := false) (et_is (et_test (ev_neD (d := .list [.bool false, .bool true, .int 4, .bool true, .bool false]) (e := .list [.bool false, .bool true, .int 4, .bool true, .bool false]) (evp_var rfl fun H6 e6 => dl (e6 _ _ h5)) (fun H6 e6 Q q => el_lst (σ := [some (.ref a), x1, x2, x3, some eg, some (.ref l), none]) (H := H5) (ea_cons ev_c (ea_cons ev_c (ea_cons ev_c (ea_cons ev_c (ea_cons ev_c ea_nil))))) (by decide) H6 e6 Q fun p H7 _ e7 h7 => q _ H7 e7 (dl h7)) (by decide +kernel) (by decide +kernel))) (by decide +kernel)) (fun z => by cases z) (fun _ H6 e6 => ?_)
      refine q_asgP (Rr := rTn lF) (evp_tups (ew_cons (tw (a := 0) (b := 3) (c := 1) (d := 0)) (ew_cons (tw (a := 0) (b := 4) (c := 0) (d := 0)) (ew_cons (tw (a := 1) (b := 0) (c := 0) (d := 2)) (ew_cons (tw (a := 1) (b := 0) (c := 1) (d := 0)) (ew_cons (tw (a := 1) (b := 1) (c := 0) (d := 0)) (ew_cons (tw (a := 2) (b := 0) (c := 0) (d := 0)) ew_nil)))))) (by decide)) (fun du H7 e7 hdu => ?_)
      have e27 := (e25.trans e6).trans e7
      refine s_ret (v := .bl true) (ev_is (ev_andV (a := true) (b := true) (ev_is (ev_eqD (d := .tuple (lF.map encW)) (e := .tuple (lF.map encW)) ((evp_prop (R := rTs K (rW K) lF) (fun k' h' => rTs_stb (rW_stb K) k' h') ((evp_call (ea_cons (ev_var rfl) ea_nil) (SpP.of fun H8 e8 => ⟨4, 4, lE, eg, rfl, rLo_ex (e27.trans e8) hE, fine_E, ok_E, up_E 60 (by decide), down_E, by decide, by rw [frs_E]; decide, rfl⟩)).imp fun H8 v8 ⟨ms, hm, hr⟩ => by rw [hm.uniq least_F] at hr; exact hr)).imp fun H8 v8 h8 => dp_T h8) (evp_var rfl fun H8 e8 => dp_T (rTn_Ts (rTn_ex e8 hdu))) (sh_T _) (sh_T _)) (by rw [PyData.eqv, eqvA_W, decide_eq_true rfl])) fun _ => ev_is (ev_notV (a := false) (ev_metOf (d := 3) fine_P (by decide) (by decide) mt_P3 lP_)) rfl) rfl) (fun H8 e8 => k H8)
end
end PLW
end
section
set_option Elab.async false
set_option linter.all false
set_option maxRecDepth 100000
set_option maxHeartbeats 2000000
namespace PLW
open PySem PySem.Spec PyProof.Rows L2
open PySem.W
open PySem.TMX (TmTxt PgOk)
/-! the head's facts -/
theorem funD_at {K : Frag} {a : Addr} {name qual : Str} {params : Arguments} {body : List Stmt} {scope : Scope} (e : fnC K a = some (name, qual, params, .stmts body, scope, mainGlobals, [], builtinsNs)) (c : okAt K a qual = true) :
    ∃ fd, FunD K name qual params body scope [] [] a fd := by
  obtain ⟨kp, c2⟩ := He.ba c
  unfold fnC at e
  cases q : K.lookup a with
  | none =>
    rw [q] at c2
    cases c2
  | some o =>
    obtain ⟨oc, od, dt, osl⟩ := o
    rw [q] at c2 e
    cases dt with
    | func fd =>
      obtain ⟨n1, n2, n3, n4, n5, n6, n7, n8, n9, n10, n11, n12, n13, n14, n15⟩ := fd
      have e2 : (some (n1, n2, n3, n4, n5, n6, n7.map (·.1), n15) : FnC) = some (name, qual, params, .stmts body, scope, mainGlobals, [], builtinsNs) := e
      simp only [Option.some.injEq, Prod.mk.injEq, List.map_eq_nil_iff] at e2
      obtain ⟨h1, h2, h3, h4, h5, h6, h7, h8⟩ := e2
      subst h1 h2 h3 h4 h5 h6 h7 h8
      have c3 : (codeIn K n13 n2 && (He.dflB K n8 [] && He.kwdB K n9 [])) = true := c2
      obtain ⟨k1, k2⟩ := He.ba c3
      obtain ⟨k3, k4⟩ := He.ba k2
      exact ⟨_, ⟨oc, od, n8, n9, n10, n11, n12, n13, n14, osl, rfl, q, k1, He.dflB_ok k3, He.kwdB_ok k4⟩, kp⟩
    | _ => cases c2
/-! TooMany -/
theorem isNon_ok {v : Value} (h : isNon v = true) : v = .none := by
  cases v with
  | none => rfl
  | _ => cases h
theorem fileB_ok {K : Frag} {cda : Addr} (h : fileB K cda = true) : ∃ (ccl : Value) (cdd : Option Addr) (vs : Array Value) (ccs : Array (Option Value)) (tf : Tok), K.lookup cda = some ⟨ccl, cdd, .fields vs, ccs⟩ ∧ vs[2]? = some (.str "/claim/cut.py" tf) := by
  unfold fileB at h
  cases q : K.lookup cda with
  | none => rw [q] at h; cases h
  | some o =>
    obtain ⟨ccl, cdd, dt, ccs⟩ := o
    rw [q] at h
    cases dt with
    | fields vs =>
      have h1 : (match (vs[2]? : Option Value) with
        | some (.str x _) => decide (x = "/claim/cut.py")
        | _ => false) = true := h
      cases q2 : vs[2]? with
      | none => rw [q2] at h1; cases h1
      | some u =>
        rw [q2] at h1
        cases u with
        | str x t =>
          have ex : x = "/claim/cut.py" := of_decide_eq_true h1
          subst ex
          exact ⟨ccl, cdd, vs, ccs, t, rfl, q2⟩
        | _ => cases h1
    | _ => cases h
theorem cellB_ok {K : Frag} {cc C : Addr} (h : cellB K cc C = true) : ∃ cl cld csl, K.lookup cc = some ⟨cl, cld, .cell (some (.ref C)), csl⟩ := by
  unfold cellB at h
  cases q : K.lookup cc with
  | none => rw [q] at h; cases h
  | some o =>
    obtain ⟨cl, cld, dt, csl⟩ := o
    rw [q] at h
    cases dt with
    | cell v =>
      cases v with
      | none => cases h
      | some u =>
        cases u with
        | ref c =>
          have e : c = C := of_decide_eq_true h
          subst e
          exact ⟨cl, cld, csl, rfl⟩
        | _ => cases h
    | _ => cases h
theorem tm_fn {K : Frag} {p : Arguments} {b : List Stmt} {sc : Scope} (e : fnC K (fT K) = some (("__init__" : Str), ("TooMany.__init__" : Str), p, FuncBody.stmts b, sc, mainGlobals, [("__class__" : Str)], builtinsNs)) (c : initB K = true) :
    (∃ cl cld csl, K.lookup (ccA K) = some ⟨cl, cld, .cell (some (.ref (CT K))), csl⟩) ∧
    ∃ (oc : Value) (od : Option Addr) (doc pm : Value) (an : Option Addr) (cda : Addr) (ct : Value) (osl : Array (Option Value)) (ccl : Value) (cdd : Option Addr) (vs : Array Value) (ccs : Array (Option Value)) (tf : Tok),
      K.lookup (fT K) = some ⟨oc, od, .func (ksFn "__init__" "TooMany.__init__" p b sc .none .none doc pm an (.ref cda) ct (ccA K)), osl⟩ ∧ codeIn K (.ref cda) "TooMany.__init__" = true ∧
      K.lookup cda = some ⟨ccl, cdd, .fields vs, ccs⟩ ∧ vs[2]? = some (.str "/claim/cut.py" tf) := by
  unfold initB at c
  unfold fnC at e
  unfold ccA
  cases q : K.lookup (fT K) with
  | none => rw [q] at c; cases c
  | some o =>
    obtain ⟨oc, od, dt, osl⟩ := o
    rw [q] at c e
    cases dt with
    | func fd =>
      obtain ⟨n1, n2, n3, n4, n5, n6, n7, n8, n9, n10, n11, n12, n13, n14, n15⟩ := fd
      have e2 : (some (n1, n2, n3, n4, n5, n6, n7.map (·.1), n15) : FnC) = some (("__init__" : Str), ("TooMany.__init__" : Str), p, FuncBody.stmts b, sc, mainGlobals, [("__class__" : Str)], builtinsNs) := e
      simp only [Option.some.injEq, Prod.mk.injEq] at e2
      obtain ⟨h1, h2, h3, h4, h5, h6, h7, h8⟩ := e2
      obtain ⟨c1, c2⟩ := He.ba c
      obtain ⟨c2, c4⟩ := He.ba c2
      obtain ⟨c2, c3⟩ := He.ba c2
      have e8 : n8 = .none := isNon_ok c1
      have e9 : n9 = .none := isNon_ok c2
      match n7, h7, c3 with
      | [(x, cc)], h7, c3 =>
        have ex : x = "__class__" := by simpa using h7
        subst ex
        cases n13 with
        | ref cda =>
          obtain ⟨c5, c6⟩ := He.ba (show (codeIn K (.ref cda) "TooMany.__init__" && fileB K cda) = true from c4)
          obtain ⟨ccl, cdd, vs, ccs, tf, f1, f2⟩ := fileB_ok c6
          subst h1 h2 h3 h4 h5 h6 h8 e8 e9
          exact ⟨cellB_ok c3, oc, od, n10, n11, n12, cda, n14, osl, ccl, cdd, vs, ccs, tf, rfl, c5, f1, f2⟩
        | _ => cases c4
    | _ => cases c
/-! slots -/
theorem sclsB_ok {K : Frag} {C : Addr} (h : sclsB K C = true) : SlX.SCls K C := by
  obtain ⟨h1, h⟩ := He.ba h
  obtain ⟨h2, h⟩ := He.ba h
  obtain ⟨h3, h4⟩ := He.ba h
  exact ⟨h1, h2, h3, He.eqO_ok h4⟩
theorem sisiB_ok {K : Frag} {C : Addr} (h : sisiB K C = true) : SlX.SIsi K C := by
  obtain ⟨h1, h⟩ := He.ba h
  obtain ⟨h2, h⟩ := He.ba h
  obtain ⟨h3, h4⟩ := He.ba h
  exact ⟨He.eqO_ok h1, He.eqO_ok h2, of_decide_eq_true h3, of_decide_eq_true h4⟩
theorem slotB_ok {K : Frag} {C : Addr} {f : Str} {i : Nat} (h : slotB K C f i = true) : ∃ p, SlX.Slot1 K C f p i := by
  obtain ⟨h1, h⟩ := He.ba h
  obtain ⟨h2, h⟩ := He.ba h
  obtain ⟨h3, h⟩ := He.ba h
  obtain ⟨h4, h⟩ := He.ba h
  obtain ⟨h5, h6⟩ := He.ba h
  exact ⟨_, He.eqO_ok h1, He.eqO_ok h2, of_decide_eq_true h3, of_decide_eq_true h4, of_decide_eq_true h5, of_decide_eq_true h6⟩
theorem recB_ok {K : Frag} (h : recB K = true) : ∃ rest, recIn K (aM K) "property" = some (.ref (gM K) :: rest) := by
  unfold recB at h
  unfold gM
  split at h
  · rename_i g rest e
    rw [e]
    exact ⟨rest, rfl⟩
  · cases h
theorem exB_at {K : Frag} (h : exB K = true) (i : Nat) {b : Bool} (e : (exL K)[i]? = some b := by rfl) : b = true := List.all_eq_true.mp h b (List.mem_of_getElem? e)
/-- what the end leans on -/
structure SaysY (h : Heap) (K : Frag) : Prop where
  d : He.SaysD faY fnY K
  m : fnC K (gM K) = cMem
  t : fnC K (fT K) = cTm
  ex : exB K = true
  hd : ∀ p ∈ tfY, codeHdIn K (He.cT K p).1 (He.cT K p).2 = true
  out : ∀ p ∈ tfY, K.lookup (He.cT K p).2 = none
  empty : ∀ p ∈ tfY, h.get? (He.cT K p).2 = some { cls := .none, data := .fields #[] }
theorem saysY_of {h : Heap} (e : obsY h.get? = valY) : SaysY h (He.frT h.get? (asY h.get?)) := by
  have e0 := congrArg (fun z : AlY => z.1) e
  have e1 : He.obsD faY fnY (He.frT h.get? (asY h.get?)) = He.valD fnY := congrArg (fun z : He.AlD × FnC × FnC => z.1) e0
  have em : fnC (He.frT h.get? (asY h.get?)) (gM (He.frT h.get? (asY h.get?))) = cMem := congrArg (fun z : He.AlD × FnC × FnC => z.2.1) e0
  have et : fnC (He.frT h.get? (asY h.get?)) (fT (He.frT h.get? (asY h.get?))) = cTm := congrArg (fun z : He.AlD × FnC × FnC => z.2.2) e0
  have e2 : (exB (He.frT h.get? (asY h.get?)) && He.tabsB h.get? tfY (He.frT h.get? (asY h.get?))) = true := congrArg (fun z : AlY => z.2) e
  obtain ⟨h1, h2⟩ := He.ba e2
  have key : ∀ p ∈ tfY, codeHdIn (He.frT h.get? (asY h.get?)) (He.cT (He.frT h.get? (asY h.get?)) p).1 (He.cT (He.frT h.get? (asY h.get?)) p).2 = true ∧ ∃ o, h.get? (He.cT (He.frT h.get? (asY h.get?)) p).2 = some o ∧ He.emptyTab o = true := fun p hp => by
    obtain ⟨h3, h4⟩ := He.ba (List.all_eq_true.mp h2 p hp)
    refine ⟨h3, ?_⟩
    cases q : h.get? (He.cT (He.frT h.get? (asY h.get?)) p).2 with
    | none =>
      rw [q] at h4
      cases h4
    | some o =>
      rw [q] at h4
      exact ⟨o, rfl, h4⟩
  exact ⟨e1, em, et, h1, fun p hp => (key p hp).1, fun p hp => by
    obtain ⟨_, o, q, z⟩ := key p hp
    exact He.frT_none q z, fun p hp => by
    obtain ⟨_, o, q, z⟩ := key p hp
    rw [q, He.emptyTab_eq z]⟩
def hookY : Hook where
  α := AlY
  obs := fun s => obsY s.heap.get?
  val := fun _ => valY
  says := fun _ h => ∃ K : Frag, K.In h ∧ SaysY h K
  of := fun _ _ e => ⟨_, He.frT_in, saysY_of e⟩
  keeps := fun _ _ _ ⟨K, hK, c⟩ k => ⟨K, Frag.In.keeps hK k, ⟨c.d, c.m, c.t, c.ex, c.hd, c.out, fun p hp => k _ _ (c.empty p hp)⟩⟩
theorem obsY_eq {g : Addr → Option Obj} {s : Shared} (h : ∀ a, g a = s.heap.get? a) : obsY g = hookY.obs s := by
  have e : g = s.heap.get? := funext h
  rw [e] <;> rfl
section
variable {K : Frag} {h : Heap} {mg : Str → Option Value}
theorem facts_T (X : K.In h) (G : h.Ns mainGlobals mg) (c : SaysY h K) : Tx K mg where
  df := fun i d hd => c.d.defs (List.mem_append_left _ (List.mem_of_getElem? hd))
  glo := fun i x hx => He.glo_ok X G (c.d.facts (List.mem_append_left _ (List.mem_of_getElem? hx)))
  fr := fun i x hx => He.free_ok X G (c.d.facts (List.mem_append_left _ (List.mem_of_getElem? hx)))
  int := fun i x k hx => He.int_ok X G (c.d.facts (List.mem_append_left _ (List.mem_of_getElem? hx)))
  comb := mg_of X G (He.eqO_ok (exB_at c.ex 18))
theorem fa_at {f : He.Fa} (c : SaysY h K) (i : Nat) (e : ([.glo "Lot", .glo "KeptMembers", .glo "TooMany", .free "super", .mkr "Lot", .mkr "KeptMembers"] : List He.Fa)[i]? = some f := by rfl) : f.ok K = true := c.d.facts (List.mem_append_right _ (List.mem_of_getElem? e))
theorem fn_at {d : He.DefD} (c : SaysY h K) (i : Nat) (e : [d_Lot_init, d_KeptMembers_init, d_Lot_eq][i]? = some d := by rfl) : ∃ fd, FunD K d.name d.qual d.params d.body d.scope (d.dvs K) (d.kws K) (He.fAd K d.at_) fd := c.d.defs (List.mem_append_right _ (List.mem_of_getElem? e))
theorem facts_C (X : K.In h) (G : h.Ns mainGlobals mg) (c : SaysY h K) : Cl K mg where
  lotG := He.glo_ok X G (fa_at c 0)
  keptG := He.glo_ok X G (fa_at c 1)
  sL := sclsB_ok (exB_at c.ex 0)
  sK := sclsB_ok (exB_at c.ex 1)
  iL := sisiB_ok (exB_at c.ex 2)
  iK := sisiB_ok (exB_at c.ex 3)
  l0 := slotB_ok (exB_at c.ex 4)
  l1 := slotB_ok (exB_at c.ex 5)
  k0 := slotB_ok (exB_at c.ex 6)
  mL := He.mkr_ok (fa_at (f := .mkr "Lot") c 4)
  mK := He.mkr_ok (fa_at (f := .mkr "KeptMembers") c 5)
  kLL := of_decide_eq_true (exB_at c.ex 7)
  kKK := of_decide_eq_true (exB_at c.ex 8)
  kTK := of_decide_eq_true (exB_at c.ex 9)
  fL := fn_at (d := d_Lot_init) c 0
  fK := fn_at (d := d_KeptMembers_init) c 1
theorem facts_M (c : SaysY h K) : ClM K where
  at_ := He.eqO_ok (exB_at c.ex 10)
  get := He.eqO_ok (exB_at c.ex 11)
  tk := of_decide_eq_true (exB_at c.ex 12)
  rc := recB_ok (exB_at c.ex 13)
  fM := funD_at c.m (exB_at c.ex 14)
  eq_ := He.eqO_ok (exB_at c.ex 15)
  fn := exB_at c.ex 16
  nf := exB_at c.ex 17
  fE := fn_at (d := d_Lot_eq) c 2
theorem facts_TM (X : K.In h) (G : h.Ns mainGlobals mg) (c : SaysY h K) : TmTxt K mg (CT K) (fT K) (ccA K) where
  gC := He.glo_ok X G (fa_at c 2)
  gs := He.free_ok X G (fa_at c 3)
  ini := exB_at c.ex 19
  over := exB_at c.ex 20
  sa := He.eqO_ok (exB_at c.ex 21)
  ga := He.eqO_ok (exB_at c.ex 22)
  gg := He.eqO_ok (exB_at c.ex 23)
  noN := He.eqO_ok (exB_at c.ex 24)
  noM := He.eqO_ok (exB_at c.ex 25)
  iC := He.eqO_ok (exB_at c.ex 26)
  fI_ := exB_at c.ex 27
  kC := exB_at c.ex 28
  exC := of_decide_eq_true (exB_at c.ex 29)
  ovC := of_decide_eq_true (exB_at c.ex 30)
  tyC := of_decide_eq_true (exB_at c.ex 31)
  hdC := exB_at c.ex 32
  te := of_decide_eq_true (exB_at c.ex 33)
  sup := He.eqO_ok (exB_at c.ex 34)
  tp := He.eqO_ok (exB_at c.ex 35)
  self_ := of_decide_eq_true (exB_at c.ex 36)
  cell := (tm_fn c.t (exB_at c.ex 37)).1
  fn := (tm_fn c.t (exB_at c.ex 37)).2
theorem facts_LF (T : Tx K mg) (c : SaysY h K) {base : Heap} (b1 : LamX.TabB base mg (He.cT K dRight).1 (He.cT K dRight).2) (b2 : LamX.TabB base mg (He.cT K dLike).1 (He.cT K dLike).2) : LamF K mg base (He.cT K dRight).1 (He.cT K dRight).2 (He.cT K dLike).1 (He.cT K dLike).2 where
  code1 := fun o fd lk e => by
    obtain ⟨fd', F⟩ := T.fn_law_right
    obtain ⟨oc, od, dV, kV, doc, pm, an, cdv, ct, osl, rfl, lk', hcd, _, _⟩ := F.ex
    obtain ⟨c1, rfl⟩ := He.codeIn_ref hcd
    rw [lk] at lk'
    obtain rfl := Option.some.inj lk'
    have e2 := e
    cases e2
    have := He.codeOf_eq (p := dRight) (K := K) lk rfl
    show Value.ref c1 = .ref (He.codeOf K dRight)
    rw [this]
  code2 := fun o fd lk e => by
    obtain ⟨fd', F⟩ := T.fn_law_like_right
    obtain ⟨oc, od, dV, kV, doc, pm, an, cdv, ct, osl, rfl, lk', hcd, _, _⟩ := F.ex
    obtain ⟨c1, rfl⟩ := He.codeIn_ref hcd
    rw [lk] at lk'
    obtain rfl := Option.some.inj lk'
    have e2 := e
    cases e2
    have := He.codeOf_eq (p := dLike) (K := K) lk rfl
    show Value.ref c1 = .ref (He.codeOf K dLike)
    rw [this]
  b1 := b1
  b2 := b2
  ne := of_decide_eq_true (exB_at c.ex 38)
end
end PLW
end
section
set_option Elab.async false
set_option linter.all false
set_option maxRecDepth 100000
set_option maxHeartbeats 2000000
namespace PLW
open PySem PySem.Spec PyProof.Rows L2
theorem ob_eq (s : PySem.W.SharedT) : ob s = hookY.obs s.abs := obsY_eq (HandSHeadRun.getT_eq s)
theorem map_pair {α β γ δ : Type} {o : Option α} {f : α → β} {g : α → γ} {h : α → δ} {b : β} {c : γ} {d : δ} (h1 : o.map (fun x => (f x, g x)) = some (b, c)) (h2 : o.map h = some d) : o.map (fun x => (f x, g x, h x)) = some (b, c, d) := by
  cases o with
  | none => cases h1
  | some x =>
    have e1 : (f x, g x) = (b, c) := Option.some.inj h1
    have e2 : h x = d := Option.some.inj h2
    obtain ⟨e3, e4⟩ := Prod.mk.inj e1
    show some (f x, g x, h x) = _
    rw [e3, e4, e2]
theorem run (w : World) : HandSHeadRun.RunEqI R qv hookY ob 40000 nms w := map_pair (run_a w) (run_b w)
end PLW
end
set_option Elab.async false
set_option linter.all false
set_option maxRecDepth 100000
set_option maxHeartbeats 0
namespace PLW
open PySem PySem.Spec PyProof.Rows L2
open PySem.TMX (TmTxt PgOk)
theorem pg_ok : PgOk R.prog := ⟨by decide +kernel, by kernel_rfl⟩
theorem law_at {w : World} {K : PySem.W.Frag} {h : Heap} {mg : Str → Option Value} {f : Addr} (X : K.In h) (G : h.Ns mainGlobals mg) (hfa : mg ("law" : Str) = some (.ref f)) (c : SaysY h K) : LamX.LawAtS PySem.Challenge.rw_pureladders_k20_whole_bounds_met_for_eve w K CX0 218 63 "_law_script" mg f h := by
  have T := facts_T X G c
  have C := facts_C X G c
  have M := facts_M c
  have TM := facts_TM X G c
  have e := hfa.symm.trans T.g_law
  cases e
  obtain ⟨fd, F⟩ := T.fn_law
  have b := FunD.bindsA (ps := ["_law_script"]) F fun _ _ _ _ _ _ us hl => match us, hl with | [_], _ => rfl
  have m1 : dRight ∈ tfY := .head _
  have m2 : dLike ∈ tfY := .tail _ (.head _)
  have key : ∀ p ∈ [He.cT K dRight, He.cT K dLike], ∃ q ∈ tfY, p = He.cT K q := fun p hp => by
    rcases List.mem_cons.mp hp with rfl | hp
    · exact ⟨_, m1, rfl⟩
    · obtain rfl := List.mem_singleton.mp hp
      exact ⟨_, m2, rfl⟩
  refine ⟨fd, [He.cT K dRight, He.cT K dLike], sp_law K (He.cT K dRight).2 (He.cT K dLike).2, fun p hp => ?_, fun p hp => ?_, fun p hp => ?_, fun s v => b s [v] rfl, fun H a ns _ _ ht hS => ⟨a, ns, rfl, hS, fun p hp => ?_, fun _ => rfl⟩, fun base _ _ hTB => ?_⟩
  · obtain ⟨q, hq, rfl⟩ := key p hp; exact c.empty q hq
  · obtain ⟨q, hq, rfl⟩ := key p hp; exact c.out q hq
  · obtain ⟨q, hq, rfl⟩ := key p hp; exact PySem.W.codeHd_of_K X (c.hd q hq)
  · rcases List.mem_cons.mp hp with rfl | hp
    · exact LamX.TabS.nil (ht _ (.head _))
    · obtain rfl := List.mem_singleton.mp hp
      exact LamX.TabS.nil (ht _ (.tail _ (.head _)))
  · exact law_ok T C M TM pg_ok (facts_LF T c (hTB _ (.head _)) (hTB _ (.tail _ (.head _)))) F
end PLW
open PySem PySem.W PySem.Calls PyProof.Rows
theorem PySem.Challenge.cw_pureladders_k20_whole_bounds_met_for_eve_holds : PySem.Challenge.rw_pureladders_k20_whole_bounds_met_for_eve.Holds := by
  w_on; o_law
  refine HandSHeadRun.head_imp (r := OpenLaw.row PySem.Challenge.rw_pureladders_k20_whole_bounds_met_for_eve) (q := PLW.qv) (H := PLW.hookY) (ob := PLW.ob) (M := 40000) (loose := PLW.nms) (d := HandSHeadRun.topDef (OpenLaw.row PySem.Challenge.rw_pureladders_k20_whole_bounds_met_for_eve).prog 101) (kwd := []) PLW.ob_eq
    PLW.run (by kernel_rfl) (by kernel_rfl) (by kernel_rfl) (by rfl) (by first | assumption | decide +kernel) (by decide +kernel) ⟨rfl, rfl, rfl, rfl, rfl, by decide +kernel⟩ ?hw ?hc
  case hw => w_witness2
  case hc =>
    refine LamX.walk_ofTsE (l := PySem.Challenge.rw_pureladders_k20_whole_bounds_met_for_eve) (n := 63) (k := 218) (x := "_law_script") (CX := fun _ => L2.CX0) rfl (by decide) (by kernel_rfl) ⟨rfl, by decide, by decide⟩ ?F (fun _ _ _ _ _ z => z)
    intro w mg fa h Y G hmg0
    obtain ⟨K, KX, c⟩ := Y
    have hmg : mg ("law" : PySem.Str) = some (.ref fa) := by
      have e : (HandSHeadRun.topDef (OpenLaw.row PySem.Challenge.rw_pureladders_k20_whole_bounds_met_for_eve).prog 101).name = ("law" : PySem.Str) := by kernel_rfl
      rw [← e]
      exact hmg0
    exact ⟨K, KX, PLW.law_at KX G hmg c⟩
