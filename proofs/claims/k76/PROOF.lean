import PyProof.Rows.All
import Wide.All
import OpenK.AllK
import Wide.FinOn
import HandS.Words
import HandS.Slots
import HandS.SlotsOwn
import HandS.Head0
import HandS.Head1
import HandS.Head2
import HandS.Head3
import HandS.HeadEnd
import HandS.HeadHook4
import HandS.HeadWalk
import HandS.EndTab
import HandS.ForMost
import HandS.Wide
import HandS.WideMore
import HandS.AnyAll
import HandS.IsInst
import HandS.Gcd
import HandS.Star
import HandS.Flt
import HandS.Style
import HandS.OwnEq
import PyProof.InstNe
import HandS.SortOrd
import HandS.Flow
import HandS.Zip
import HandS.DictComp
import HandS.Conv
import HandS.JoinGen
import HandS.GenList
import HandS.FStr
import HandS.Text
import KE.KCallOwn
import HandS.List
import PySem.Challenge.RW_formrings_k76_whole_greatest_rings_of_th
set_option Elab.async false
set_option linter.all false
set_option maxRecDepth 100000
set_option maxHeartbeats 4000000
namespace Fr
open PySem PySem.Spec PyProof.Rows L2
/-! ### the text -/
def topS (i : Nat) : Stmt := PySem.Challenge.pw_formrings_k76_whole_greatest_rings_of_th.main.body.getD i (.Pass ⟨0, 0, 0, 0⟩)
abbrev s_is_whole : Stmt := topS 13
abbrev s_is_integer : Stmt := topS 14
abbrev s_is_within : Stmt := topS 15
abbrev s_require_within : Stmt := topS 16
abbrev s_common_of : Stmt := topS 17
abbrev s_is_prime_number : Stmt := topS 18
abbrev s_taken_out : Stmt := topS 19
abbrev s_factors_in : Stmt := topS 20
abbrev s_joined_in : Stmt := topS 27
abbrev s_are_integers : Stmt := topS 30
abbrev s_numbers_text : Stmt := topS 32
abbrev s_lowest_place : Stmt := topS 42
abbrev s_places_of_double : Stmt := topS 43
abbrev s_monic_at : Stmt := topS 44
abbrev s_bisected : Stmt := topS 45
abbrev s_monic_roots : Stmt := topS 46
abbrev s_places_of_cubic : Stmt := topS 47
abbrev s_form_at : Stmt := topS 54
abbrev s_form_led : Stmt := topS 55
abbrev s_discriminant_of : Stmt := topS 56
abbrev s_form_told : Stmt := topS 60
abbrev s_made_form : Stmt := topS 61
abbrev s_require_form : Stmt := topS 62
abbrev s_bezout : Stmt := topS 79
abbrev s_end_change : Stmt := topS 80
abbrev s_lead_with_root : Stmt := topS 81
abbrev s_is_small : Stmt := topS 82
abbrev s_is_between : Stmt := topS 83
abbrev s_is_not_past : Stmt := topS 84
abbrev s_best_shift : Stmt := topS 85
abbrev s_lead_without_root : Stmt := topS 86
abbrev s_led_below : Stmt := topS 87
abbrev s_least_of : Stmt := topS 97
abbrev s_least_row : Stmt := topS 98
abbrev s_least_made : Stmt := topS 99
abbrev s_require_short : Stmt := topS 100
abbrev s_is_least : Stmt := topS 101
abbrev s_least_form : Stmt := topS 102
abbrev s_is_small_prime : Stmt := topS 111
abbrev s_require_prime : Stmt := topS 112
abbrev s_places_at : Stmt := topS 113
abbrev s_is_place : Stmt := topS 114
abbrev s_slope_at : Stmt := topS 115
abbrev s_is_heavy : Stmt := topS 116
abbrev s_numbers_above : Stmt := topS 117
abbrev s_is_divided : Stmt := topS 118
abbrev s_heavy_places : Stmt := topS 119
abbrev s_above : Stmt := topS 120
abbrev s_require_stepped : Stmt := topS 121
abbrev s_double_primes : Stmt := topS 122
abbrev s_bar_at : Stmt := topS 123
abbrev s_first_bar : Stmt := topS 124
abbrev s_bar : Stmt := topS 125
abbrev s_is_greatest : Stmt := topS 126
abbrev s_step_of : Stmt := topS 127
abbrev s_numbers_behind : Stmt := topS 128
abbrev s_way_up : Stmt := topS 129
abbrev s_greatest : Stmt := topS 130
abbrev s_parts_of : Stmt := topS 136
abbrev s_third_root : Stmt := topS 137
abbrev s_third_form : Stmt := topS 138
abbrev s_heavy_place_of : Stmt := topS 139
abbrev s_third_greatest : Stmt := topS 140
abbrev s_law_cask : Stmt := topS 142
abbrev s_law_tap : Stmt := topS 143
abbrev s_law_one : Stmt := topS 144
abbrev s_law_is_right : Stmt := topS 145
abbrev s_law_right : Stmt := topS 146
abbrev s_KeptForm_init : Stmt := inClass (topS 58) 1
abbrev s_Form_init : Stmt := inClass (topS 59) 1
abbrev s_Form_discriminant : Stmt := inClass (topS 59) 4
abbrev s_Form_getitem : Stmt := inClass (topS 59) 14
abbrev s_Form_eq : Stmt := inClass (topS 59) 17
abbrev s_Form_str : Stmt := inClass (topS 59) 19
abbrev s_Walk_init : Stmt := inClass (topS 78) 1
abbrev s_Walk_step : Stmt := inClass (topS 78) 2
abbrev s_law : Stmt := topS 147
end Fr
namespace Fr
open PySem PySem.Spec PyProof.Rows L2 He
/-! ### looks at the head's heap -/
def clsB (K : PySem.W.Frag) (C : Addr) : Bool := PySem.W.plainGet K C Str.empty && (PySem.W.isClsIn K C && (PySem.W.plainOver K C && eqO (PySem.W.findIn K (.ref C) "__setattr__") (some (some (.builtin "object.__setattr__")))))
theorem clsB_ok {K : PySem.W.Frag} {C : Addr} (h : clsB K C = true) : SlX.SCls K C := by
  obtain ⟨h1, h⟩ := ba h
  obtain ⟨h2, h⟩ := ba h
  obtain ⟨h3, h4⟩ := ba h
  exact ⟨h1, h2, h3, eqO_ok h4⟩
def isiB (K : PySem.W.Frag) (C : Addr) : Bool := eqO (PySem.W.findIn K (.ref C) "__class__") (some (some (.builtin "object.__class__"))) && (eqO (PySem.W.specialIn K (.builtin "object.__class__") "__get__") (some (some (.builtin "getset_descriptor.__get__"))) && (decide (PySem.W.takesIn K (.builtin "object.__class__") = some true) && decide (PySem.W.mroIn K C (.type "object") = some true)))
theorem isiB_ok {K : PySem.W.Frag} {C : Addr} (h : isiB K C = true) : SlX.SIsi K C := by
  obtain ⟨h1, h⟩ := ba h
  obtain ⟨h2, h⟩ := ba h
  obtain ⟨h3, h4⟩ := ba h
  exact ⟨eqO_ok h1, eqO_ok h2, of_decide_eq_true h3, of_decide_eq_true h4⟩
def slB (K : PySem.W.Frag) (C : Addr) (f : Str) (i : Nat) : Bool := eqO (PySem.W.findIn K (.ref C) f) (some (some (.ref (ma K C f)))) && (eqO (PySem.W.specialIn K (.ref (ma K C f)) "__get__") (some (some (.builtin "member_descriptor.__get__"))) && (decide (PySem.W.takesIn K (.ref (ma K C f)) = some true) && (decide (PySem.W.typeIn K (.ref (ma K C f)) = some (.type "member_descriptor")) && decide (PySem.W.slotIn K (ma K C f) C = some i))))
theorem slB_ok {K : PySem.W.Frag} {C : Addr} {f : Str} {i : Nat} (h : slB K C f i = true) (hi : i < 1000) : SlX.Slot1 K C f (ma K C f) i := by
  obtain ⟨h1, h⟩ := ba h
  obtain ⟨h2, h⟩ := ba h
  obtain ⟨h3, h⟩ := ba h
  obtain ⟨h4, h5⟩ := ba h
  exact ⟨eqO_ok h1, eqO_ok h2, of_decide_eq_true h3, of_decide_eq_true h4, of_decide_eq_true h5, hi⟩
/-- the property's own function -/
def prA (K : PySem.W.Frag) : Addr := ma K (ga K "Form") "discriminant"
def pgA (K : PySem.W.Frag) : Addr := match PySem.W.recIn K (prA K) "property" with
  | some (.ref g :: _) => g
  | _ => 0
def prB (K : PySem.W.Frag) : Bool := eqO (PySem.W.findIn K (.ref (ga K "Form")) "discriminant") (some (some (.ref (prA K)))) && (eqO (PySem.W.specialIn K (.ref (prA K)) "__get__") (some (some (.builtin "property.__get__"))) && (decide (PySem.W.takesIn K (.ref (prA K)) = some true) && (match PySem.W.recIn K (prA K) "property" with
  | some (.ref _ :: _) => true
  | _ => false)))
theorem prB_ok {K : PySem.W.Frag} (h : prB K = true) : PySem.W.findIn K (.ref (ga K "Form")) "discriminant" = some (some (.ref (prA K))) ∧ PySem.W.specialIn K (.ref (prA K)) "__get__" = some (some (.builtin "property.__get__")) ∧ PySem.W.takesIn K (.ref (prA K)) = some true ∧ ∃ rest, PySem.W.recIn K (prA K) "property" = some (.ref (pgA K) :: rest) := by
  obtain ⟨h1, h⟩ := ba h
  obtain ⟨h2, h⟩ := ba h
  obtain ⟨h3, h4⟩ := ba h
  refine ⟨eqO_ok h1, eqO_ok h2, of_decide_eq_true h3, ?_⟩
  unfold pgA
  cases q : PySem.W.recIn K (prA K) "property" with
  | none =>
    rw [q] at h4
    cases h4
  | some l =>
    rw [q] at h4
    cases l with
    | nil => cases h4
    | cons v r =>
      cases v with
      | ref g => exact ⟨r, rfl⟩
      | _ => cases h4
/-- a def anywhere -/
def fnWA (K : PySem.W.Frag) (a : Addr) : FnW := match K.lookup a with
  | some ⟨_, _, .func fd, _⟩ => some (fd.name, fd.qualname, fd.params, fd.body, fd.scope, fd.globals, fd.closure, fd.builtins)
  | _ => none
def fnBA (K : PySem.W.Frag) (a : Addr) (q : Str) : Bool := PySem.W.keepIn K (.ref a) && (match K.lookup a with
  | some ⟨_, _, .func fd, _⟩ => PySem.W.codeIn K fd.code q && dflB K fd.defaults []
  | _ => false)
theorem funD_at {K : PySem.W.Frag} {d : DefD} {a : Addr} (e : fnWA K a = d.val) (c : fnBA K a d.qual = true) : ∃ fd, FunD K d.name d.qual d.params d.body d.scope [] [] a fd := by
  obtain ⟨kp, c2⟩ := ba c
  unfold fnWA at e
  cases q : K.lookup a with
  | none =>
    rw [q] at c2
    cases c2
  | some o =>
    obtain ⟨oc, od, dt, osl⟩ := o
    rw [q] at c2 e
    cases dt with
    | func fd =>
      obtain ⟨n1, n2, n3, n4, n5, n6, n7, n8, n9, n10, n11, n12, n13, n14, n15⟩ := fd
      have e2 : (some (n1, n2, n3, n4, n5, n6, n7, n15) : FnW) = some (d.name, d.qual, d.params, .stmts d.body, d.scope, mainGlobals, [], builtinsNs) := e
      simp only [Option.some.injEq, Prod.mk.injEq] at e2
      obtain ⟨h1, h2, h3, h4, h5, h6, h7, h8⟩ := e2
      subst h1 h2 h3 h4 h5 h6 h7 h8
      obtain ⟨k1, k3⟩ := ba (show (PySem.W.codeIn K n13 d.qual && dflB K n8 []) = true from c2)
      exact ⟨_, ⟨oc, od, n8, n9, n10, n11, n12, n13, n14, osl, rfl, q, k1, dflB_ok k3, .inl rfl⟩, kp⟩
    | _ => cases c2
/-- tuples -/
def itA (K : PySem.W.Frag) (a : Addr) (i : Nat) : Addr := match K.lookup a with
  | some ⟨_, _, .seq its _, _⟩ => (match its.toList[i]? with
    | some (.ref b) => b
    | _ => 0)
  | _ => 0
def tuA (K : PySem.W.Frag) (a : Addr) (vs : List V) : Bool := match K.lookup a with
  | some ⟨.type c, _, .seq its _, _⟩ => decide (c = "tuple") && (decide (its.size ≤ sizeLine) && relAll vs its.toList)
  | _ => false
theorem tuA_ok {K : PySem.W.Frag} {a : Addr} {vs : List V} (h : tuA K a vs = true) (H : Hp) : SqT K H a vs := by
  unfold tuA at h
  cases q : K.lookup a with
  | none =>
    rw [q] at h
    cases h
  | some o =>
    obtain ⟨oc, od, dt, osl⟩ := o
    rw [q] at h
    cases oc with
    | type c =>
      cases dt with
      | seq its n =>
        obtain ⟨h1, h2⟩ := ba (show (decide (c = "tuple") && (decide (its.size ≤ sizeLine) && relAll vs its.toList)) = true from h)
        obtain ⟨h3, h4⟩ := ba h2
        exact .inr ⟨_, its, n, q, congrArg Value.type (of_decide_eq_true h1), rfl, of_decide_eq_true h3, relAll_ok h4⟩
      | _ => cases h
    | _ => cases dt <;> cases h
def paB (K : PySem.W.Frag) (a : Addr) (p q : Int) : Bool := tuA K a [.int p, .int q]
def mtB (K : PySem.W.Frag) (a : Addr) (p q r s : Int) : Bool := tuA K a [.ref (itA K a 0), .ref (itA K a 1)] && (paB K (itA K a 0) p q && paB K (itA K a 1) r s)
/-! ### what is looked at -/
def faL0 : List Fa := [.glo "is_whole", .glo "is_integer", .glo "is_within", .glo "require_within", .glo "common_of", .glo "is_prime_number", .glo "taken_out", .glo "factors_in", .glo "joined_in", .glo "are_integers", .glo "numbers_text", .glo "lowest_place", .glo "places_of_double", .glo "monic_at", .glo "bisected", .glo "monic_roots", .glo "places_of_cubic", .glo "form_at", .glo "form_led", .glo "discriminant_of", .glo "form_told", .glo "made_form", .glo "require_form", .glo "bezout", .glo "end_change"]
def faL1 : List Fa := [.glo "lead_with_root", .glo "is_small", .glo "is_between", .glo "is_not_past", .glo "best_shift", .glo "lead_without_root", .glo "led_below", .glo "least_of", .glo "least_row", .glo "least_made", .glo "require_short", .glo "is_least", .glo "least_form", .glo "is_small_prime", .glo "require_prime", .glo "places_at", .glo "is_place", .glo "slope_at", .glo "is_heavy", .glo "numbers_above", .glo "is_divided", .glo "heavy_places", .glo "above", .glo "require_stepped", .glo "double_primes"]
def faL2 : List Fa := [.glo "bar_at", .glo "first_bar", .glo "bar", .glo "is_greatest", .glo "step_of", .glo "numbers_behind", .glo "way_up", .glo "greatest", .glo "parts_of", .glo "third_root", .glo "third_form", .glo "heavy_place_of", .glo "third_greatest", .glo "_law_cask", .glo "_law_tap", .glo "_law_one", .glo "_law_is_right", .glo "_law_right", .glo "law", .glo "Form", .glo "KeptForm", .glo "Walk", .glo "END_lines", .glo "END_steps", .glo "IDLE"]
def faL3 : List Fa := [.glo "EXCHANGE", .glo "OPPOSITE_below", .glo "MIRROR", .glo "MIRROR_BACK", .free "isinstance", .free "bool", .free "abs", .free "all", .free "any", .free "range", .free "tuple", .free "len", .free "max", .free "min", .free "sorted", .free "zip", .free "next", .free "str", .free "int", .free "sum", .int "SIXTY_DIGITS" ((10 ^ 60)), .int "SIZE_forms" (4), .int "MAX_STEPPED" (100000000), .int "MOST_PRIME" (10000), .int "LEAST_THIRD" (2)]
def faL4 : List Fa := [.int "MAX_THIRD" (1000000000000), .int "MANY" (3), .int "NINE" (9), .str "PART" "part", .str "ABOVE" "above", .str "CONTENT" "content", .str "PLACE" "place", .mkr "Form", .mkr "KeptForm", .mkr "Walk", .meth "Walk" "step", .meth "Form" "__getitem__", .meth "Form" "__eq__", .meth "Form" "__str__"]
def faL : List Fa := faL0 ++ (faL1 ++ (faL2 ++ (faL3 ++ (faL4))))
def fnL0 : List DefD := [⟨("is_whole", none), "is_whole", "is_whole", defArgs s_is_whole, defBody s_is_whole, defScope s_is_whole, [], []⟩, ⟨("is_integer", none), "is_integer", "is_integer", defArgs s_is_integer, defBody s_is_integer, defScope s_is_integer, [], []⟩, ⟨("is_within", none), "is_within", "is_within", defArgs s_is_within, defBody s_is_within, defScope s_is_within, [], []⟩, ⟨("require_within", none), "require_within", "require_within", defArgs s_require_within, defBody s_require_within, defScope s_require_within, [], []⟩, ⟨("common_of", none), "common_of", "common_of", defArgs s_common_of, defBody s_common_of, defScope s_common_of, [], []⟩, ⟨("is_prime_number", none), "is_prime_number", "is_prime_number", defArgs s_is_prime_number, defBody s_is_prime_number, defScope s_is_prime_number, [], []⟩, ⟨("taken_out", none), "taken_out", "taken_out", defArgs s_taken_out, defBody s_taken_out, defScope s_taken_out, [], []⟩, ⟨("factors_in", none), "factors_in", "factors_in", defArgs s_factors_in, defBody s_factors_in, defScope s_factors_in, [], []⟩, ⟨("joined_in", none), "joined_in", "joined_in", defArgs s_joined_in, defBody s_joined_in, defScope s_joined_in, [], []⟩, ⟨("are_integers", none), "are_integers", "are_integers", defArgs s_are_integers, defBody s_are_integers, defScope s_are_integers, [], []⟩, ⟨("numbers_text", none), "numbers_text", "numbers_text", defArgs s_numbers_text, defBody s_numbers_text, defScope s_numbers_text, [], []⟩, ⟨("lowest_place", none), "lowest_place", "lowest_place", defArgs s_lowest_place, defBody s_lowest_place, defScope s_lowest_place, [], []⟩, ⟨("places_of_double", none), "places_of_double", "places_of_double", defArgs s_places_of_double, defBody s_places_of_double, defScope s_places_of_double, [], []⟩, ⟨("monic_at", none), "monic_at", "monic_at", defArgs s_monic_at, defBody s_monic_at, defScope s_monic_at, [], []⟩, ⟨("bisected", none), "bisected", "bisected", defArgs s_bisected, defBody s_bisected, defScope s_bisected, [], []⟩, ⟨("monic_roots", none), "monic_roots", "monic_roots", defArgs s_monic_roots, defBody s_monic_roots, defScope s_monic_roots, [], []⟩, ⟨("places_of_cubic", none), "places_of_cubic", "places_of_cubic", defArgs s_places_of_cubic, defBody s_places_of_cubic, defScope s_places_of_cubic, [], []⟩, ⟨("form_at", none), "form_at", "form_at", defArgs s_form_at, defBody s_form_at, defScope s_form_at, [], []⟩, ⟨("form_led", none), "form_led", "form_led", defArgs s_form_led, defBody s_form_led, defScope s_form_led, [], []⟩, ⟨("discriminant_of", none), "discriminant_of", "discriminant_of", defArgs s_discriminant_of, defBody s_discriminant_of, defScope s_discriminant_of, [], []⟩]
def fnL1 : List DefD := [⟨("form_told", none), "form_told", "form_told", defArgs s_form_told, defBody s_form_told, defScope s_form_told, [], []⟩, ⟨("made_form", none), "made_form", "made_form", defArgs s_made_form, defBody s_made_form, defScope s_made_form, [], []⟩, ⟨("require_form", none), "require_form", "require_form", defArgs s_require_form, defBody s_require_form, defScope s_require_form, [], []⟩, ⟨("bezout", none), "bezout", "bezout", defArgs s_bezout, defBody s_bezout, defScope s_bezout, [], []⟩, ⟨("end_change", none), "end_change", "end_change", defArgs s_end_change, defBody s_end_change, defScope s_end_change, [], []⟩, ⟨("lead_with_root", none), "lead_with_root", "lead_with_root", defArgs s_lead_with_root, defBody s_lead_with_root, defScope s_lead_with_root, [], []⟩, ⟨("is_small", none), "is_small", "is_small", defArgs s_is_small, defBody s_is_small, defScope s_is_small, [], []⟩, ⟨("is_between", none), "is_between", "is_between", defArgs s_is_between, defBody s_is_between, defScope s_is_between, [], []⟩, ⟨("is_not_past", none), "is_not_past", "is_not_past", defArgs s_is_not_past, defBody s_is_not_past, defScope s_is_not_past, [], []⟩, ⟨("best_shift", none), "best_shift", "best_shift", defArgs s_best_shift, defBody s_best_shift, defScope s_best_shift, [], []⟩, ⟨("lead_without_root", none), "lead_without_root", "lead_without_root", defArgs s_lead_without_root, defBody s_lead_without_root, defScope s_lead_without_root, [], []⟩, ⟨("led_below", none), "led_below", "led_below", defArgs s_led_below, defBody s_led_below, defScope s_led_below, [], []⟩, ⟨("least_of", none), "least_of", "least_of", defArgs s_least_of, defBody s_least_of, defScope s_least_of, [], []⟩, ⟨("least_row", none), "least_row", "least_row", defArgs s_least_row, defBody s_least_row, defScope s_least_row, [], []⟩, ⟨("least_made", none), "least_made", "least_made", defArgs s_least_made, defBody s_least_made, defScope s_least_made, [], []⟩, ⟨("require_short", none), "require_short", "require_short", defArgs s_require_short, defBody s_require_short, defScope s_require_short, [], []⟩, ⟨("is_least", none), "is_least", "is_least", defArgs s_is_least, defBody s_is_least, defScope s_is_least, [], []⟩, ⟨("least_form", none), "least_form", "least_form", defArgs s_least_form, defBody s_least_form, defScope s_least_form, [], []⟩, ⟨("is_small_prime", none), "is_small_prime", "is_small_prime", defArgs s_is_small_prime, defBody s_is_small_prime, defScope s_is_small_prime, [], []⟩, ⟨("require_prime", none), "require_prime", "require_prime", defArgs s_require_prime, defBody s_require_prime, defScope s_require_prime, [], []⟩]
def fnL2 : List DefD := [⟨("places_at", none), "places_at", "places_at", defArgs s_places_at, defBody s_places_at, defScope s_places_at, [], []⟩, ⟨("is_place", none), "is_place", "is_place", defArgs s_is_place, defBody s_is_place, defScope s_is_place, [], []⟩, ⟨("slope_at", none), "slope_at", "slope_at", defArgs s_slope_at, defBody s_slope_at, defScope s_slope_at, [], []⟩, ⟨("is_heavy", none), "is_heavy", "is_heavy", defArgs s_is_heavy, defBody s_is_heavy, defScope s_is_heavy, [], []⟩, ⟨("numbers_above", none), "numbers_above", "numbers_above", defArgs s_numbers_above, defBody s_numbers_above, defScope s_numbers_above, [], []⟩, ⟨("is_divided", none), "is_divided", "is_divided", defArgs s_is_divided, defBody s_is_divided, defScope s_is_divided, [], []⟩, ⟨("heavy_places", none), "heavy_places", "heavy_places", defArgs s_heavy_places, defBody s_heavy_places, defScope s_heavy_places, [], []⟩, ⟨("above", none), "above", "above", defArgs s_above, defBody s_above, defScope s_above, [], []⟩, ⟨("require_stepped", none), "require_stepped", "require_stepped", defArgs s_require_stepped, defBody s_require_stepped, defScope s_require_stepped, [], []⟩, ⟨("double_primes", none), "double_primes", "double_primes", defArgs s_double_primes, defBody s_double_primes, defScope s_double_primes, [], []⟩, ⟨("bar_at", none), "bar_at", "bar_at", defArgs s_bar_at, defBody s_bar_at, defScope s_bar_at, [], []⟩, ⟨("first_bar", none), "first_bar", "first_bar", defArgs s_first_bar, defBody s_first_bar, defScope s_first_bar, [], []⟩, ⟨("bar", none), "bar", "bar", defArgs s_bar, defBody s_bar, defScope s_bar, [], []⟩, ⟨("is_greatest", none), "is_greatest", "is_greatest", defArgs s_is_greatest, defBody s_is_greatest, defScope s_is_greatest, [], []⟩, ⟨("step_of", none), "step_of", "step_of", defArgs s_step_of, defBody s_step_of, defScope s_step_of, [], []⟩, ⟨("numbers_behind", none), "numbers_behind", "numbers_behind", defArgs s_numbers_behind, defBody s_numbers_behind, defScope s_numbers_behind, [], []⟩, ⟨("way_up", none), "way_up", "way_up", defArgs s_way_up, defBody s_way_up, defScope s_way_up, [], []⟩, ⟨("greatest", none), "greatest", "greatest", defArgs s_greatest, defBody s_greatest, defScope s_greatest, [], []⟩, ⟨("parts_of", none), "parts_of", "parts_of", defArgs s_parts_of, defBody s_parts_of, defScope s_parts_of, [], []⟩, ⟨("third_root", none), "third_root", "third_root", defArgs s_third_root, defBody s_third_root, defScope s_third_root, [], []⟩]
def fnL3 : List DefD := [⟨("third_form", none), "third_form", "third_form", defArgs s_third_form, defBody s_third_form, defScope s_third_form, [], []⟩, ⟨("heavy_place_of", none), "heavy_place_of", "heavy_place_of", defArgs s_heavy_place_of, defBody s_heavy_place_of, defScope s_heavy_place_of, [], []⟩, ⟨("third_greatest", none), "third_greatest", "third_greatest", defArgs s_third_greatest, defBody s_third_greatest, defScope s_third_greatest, [], []⟩, ⟨("_law_cask", none), "_law_cask", "_law_cask", defArgs s_law_cask, defBody s_law_cask, defScope s_law_cask, [], []⟩, ⟨("_law_tap", none), "_law_tap", "_law_tap", defArgs s_law_tap, defBody s_law_tap, defScope s_law_tap, [], []⟩, ⟨("_law_one", none), "_law_one", "_law_one", defArgs s_law_one, defBody s_law_one, defScope s_law_one, [], []⟩, ⟨("_law_is_right", none), "_law_is_right", "_law_is_right", defArgs s_law_is_right, defBody s_law_is_right, defScope s_law_is_right, [], []⟩, ⟨("_law_right", none), "_law_right", "_law_right", defArgs s_law_right, defBody s_law_right, defScope s_law_right, [], []⟩, ⟨("KeptForm", some "__init__"), "__init__", "KeptForm.__init__", defArgs s_KeptForm_init, defBody s_KeptForm_init, defScope s_KeptForm_init, [], []⟩, ⟨("Form", some "__init__"), "__init__", "Form.__init__", defArgs s_Form_init, defBody s_Form_init, defScope s_Form_init, [], []⟩, ⟨("Form", some "__getitem__"), "__getitem__", "Form.__getitem__", defArgs s_Form_getitem, defBody s_Form_getitem, defScope s_Form_getitem, [], []⟩, ⟨("Form", some "__eq__"), "__eq__", "Form.__eq__", defArgs s_Form_eq, defBody s_Form_eq, defScope s_Form_eq, [], []⟩, ⟨("Form", some "__str__"), "__str__", "Form.__str__", defArgs s_Form_str, defBody s_Form_str, defScope s_Form_str, [], []⟩, ⟨("Walk", some "__init__"), "__init__", "Walk.__init__", defArgs s_Walk_init, defBody s_Walk_init, defScope s_Walk_init, [], []⟩, ⟨("Walk", some "step"), "step", "Walk.step", defArgs s_Walk_step, defBody s_Walk_step, defScope s_Walk_step, [], []⟩, ⟨("law", none), "law", "law", defArgs s_law, defBody s_law, defScope s_law, [], []⟩]
def fnL : List DefD := fnL0 ++ (fnL1 ++ (fnL2 ++ (fnL3)))
def dDisc : DefD := ⟨("Form", some "discriminant"), "discriminant", "Form.discriminant", defArgs s_Form_discriminant, defBody s_Form_discriminant, defScope s_Form_discriminant, [], []⟩
def tfL : List Defn := [("bar_at", none), ("first_bar", none)]
def exL (K : PySem.W.Frag) : List Bool := [clsB K (ga K "Form"), clsB K (ga K "KeptForm"), clsB K (ga K "Walk"), isiB K (ga K "Form"), isiB K (ga K "KeptForm"), slB K (ga K "Form") "own_coefficients" 0, slB K (ga K "KeptForm") "own_numbers" 0, slB K (ga K "Walk") "own_change" 0, slB K (ga K "Walk") "own_numbers" 1, prB K, fnBA K (pgA K) "Form.discriminant", decide (PySem.W.kitOne K (.ref (ga K "Form")) (.ref (ga K "Form")) = some true), decide (PySem.W.kitOne K (.ref (ga K "KeptForm")) (.ref (ga K "KeptForm")) = some true), decide (PySem.W.kitOne K (.type "tuple") (.ref (ga K "KeptForm")) = some false), PySem.W.fnIn K (ma K (ga K "Form") "__getitem__"), eqO (PySem.W.findIn K (.ref (ga K "Form")) "__ne__") (some (some (.builtin "object.__ne__"))), decide (PySem.W.mroIn K (ga K "Form") (.type "object") = some true), eqO (PySem.W.nsIn K mainGlobals "gcd") (some (some (.builtin "math.gcd"))), paB K (ga K "END_lines") 1 0, paB K (ga K "END_steps") 1 0, mtB K (ga K "IDLE") 1 0 0 1, mtB K (ga K "EXCHANGE") 0 1 (-1) 0, mtB K (ga K "OPPOSITE_below") (-1) 0 0 (-1), mtB K (ga K "MIRROR") 1 0 0 (-1), mtB K (ga K "MIRROR_BACK") (-1) 0 0 1]
def exB (K : PySem.W.Frag) : Bool := (exL K).all id
end Fr
set_option maxHeartbeats 0
namespace Fr
open PySem PySem.W PySem.Calls PyProof.Rows He
abbrev R : OpenRow := OpenLaw.row PySem.Challenge.rw_formrings_k76_whole_greatest_rings_of_th
abbrev qv : Program := view R.prog [0, 147]
def nm0 : List PySem.Str := ["_wall", "RingError", "InvalidForm", "InvalidChange", "InvalidDouble", "InvalidOperation", "ParseError", "InvalidNumber", "TooMany", "SIXTY_DIGITS", "is_whole", "is_integer", "is_within", "require_within", "common_of", "is_prime_number", "taken_out", "factors_in", "IDLE", "determinant_of", "are_two_pairs", "is_change_in", "require_change", "joined_in", "SIZE_doubles", "are_integers", "content_of", "numbers_text"]
def nm1 : List PySem.Str := ["require_two_integers", "double_at", "double_led", "KeptDouble", "Double", "double_told", "made_double", "END_lines", "lowest_place", "places_of_double", "monic_at", "bisected", "monic_roots", "places_of_cubic", "SIZE_forms", "MOST_DIGITS_forms", "MINUS", "BETWEEN", "DIGITS", "form_at", "form_led", "discriminant_of", "hessian_of", "KeptForm", "Form", "form_told", "made_form", "require_form", "require_other_than_zero", "number_in"]
def nm2 : List PySem.Str := ["numbers_in", "SWAPPED", "MIRRORED", "SIGNS", "small_changes", "way_to_small", "led_above", "EXCHANGE", "OPPOSITE_below", "MIRROR", "MIRROR_BACK", "Walk", "bezout", "end_change", "lead_with_root", "is_small", "is_between", "is_not_past", "best_shift", "lead_without_root", "led_below", "OPPOSITE_zero", "TURNED", "double_place", "with_first", "last_way", "led_zero", "MOST_DIGITS_least", "least_of", "least_row"]
def nm3 : List PySem.Str := ["least_made", "require_short", "is_least", "least_form", "MAX_STEPPED", "MOST_PRIME", "END_steps", "PART", "ABOVE", "CONTENT", "PLACE", "is_small_prime", "require_prime", "places_at", "is_place", "slope_at", "is_heavy", "numbers_above", "is_divided", "heavy_places", "above", "require_stepped", "double_primes", "bar_at", "first_bar", "bar", "is_greatest", "step_of", "numbers_behind", "way_up"]
def nm4 : List PySem.Str := ["greatest", "LEAST_THIRD", "MAX_THIRD", "MANY", "NINE", "parts_of", "third_root", "third_form", "heavy_place_of", "third_greatest", "_law_cask", "_law_tap", "_law_one", "_law_is_right", "_law_right"]
def names : List PySem.Str := nm0 ++ nm1 ++ nm2 ++ nm3 ++ nm4
/-! ### the part of the heap that is looked at: no object is followed twice but by chance -/
def refsM (o : Obj) : List Addr := match o.cls with
  | .type "code" => []
  | _ => (match o.data with
    | .seq its _ => its.toList.flatMap refV
    | .dict es _ => es.toList.flatMap fun e => refV e.val
    | .func fd => refV fd.code
    | .cls cd => cd.ns :: cd.mro.flatMap refV
    | .fields vs => vs.toList.flatMap refV
    | _ => [])
def nextM (g : Addr → Option Obj) (as : List Addr) : List Addr := as.flatMap fun a => match g a with
  | some o => refsM o
  | none => []
def codeM (g : Addr → Option Obj) (as : List Addr) : List Addr := as.flatMap fun a => match g a with
  | some ⟨_, _, .func fd, _⟩ => refV fd.code
  | _ => []
def asM2 (g : Addr → Option Obj) (a1 : List Addr) (a2 : List Addr) (a3 : List Addr) (a4 : List Addr) : List Addr := mainGlobals :: (a1 ++ (a2 ++ (a3 ++ (a4 ++ codeM g a4))))
def asM (g : Addr → Option Obj) : List Addr := asM2 g (nextM g [mainGlobals]) (nextM g (nextM g [mainGlobals])) (nextM g (nextM g (nextM g [mainGlobals]))) (nextM g (nextM g (nextM g (nextM g [mainGlobals]))))
def KM (g : Addr → Option Obj) : PySem.W.Frag := frT g (asM g)
def oA (g : Addr → Option Obj) : Bool := faL.all fun f => f.ok (KM g)
def oB (g : Addr → Option Obj) : Bool := exB (KM g) && tabsB g tfL (KM g)
def oC (g : Addr → Option Obj) : Bool := fnL.all fun d => d.ok (KM g)
def oD (g : Addr → Option Obj) : List FnW × FnW := (fnL.map fun d => fnW (KM g) d.at_, fnWA (KM g) (pgA (KM g)))
def vD : List FnW × FnW := (fnL.map DefD.val, dDisc.val)
theorem says_of {h : Heap} {w : World} (a : oA h.get? = true) (b : oB h.get? = true) (c : oC h.get? = true) (d : oD h.get? = vD) : SaysX faL fnL [] tfL exB w h (KM h.get?) ∧ fnWA (KM h.get?) (pgA (KM h.get?)) = dDisc.val := by
  obtain ⟨b1, b2⟩ := ba b
  have d1 : fnL.map (fun d => fnW (KM h.get?) d.at_) = fnL.map DefD.val := congrArg (·.1) d
  have t : SaysT faL fnL [] w (KM h.get?) := by
    show (((faL.all fun f => f.ok (KM h.get?)) && fnL.all fun d => d.ok (KM h.get?), fnL.map fun d => fnW (KM h.get?) d.at_), _) = _
    rw [d1]
    have a' : (faL.all fun f => f.ok (KM h.get?)) = true := a
    have c' : (fnL.all fun d => d.ok (KM h.get?)) = true := c
    rw [a', c']
    rfl
  have key : ∀ p ∈ tfL, PySem.W.codeHdIn (KM h.get?) (cT (KM h.get?) p).1 (cT (KM h.get?) p).2 = true ∧ ∃ o, h.get? (cT (KM h.get?) p).2 = some o ∧ emptyTab o = true := fun p hp => by
    obtain ⟨h3, h4⟩ := ba (List.all_eq_true.mp b2 p hp)
    refine ⟨h3, ?_⟩
    cases q : h.get? (cT (KM h.get?) p).2 with
    | none =>
      rw [q] at h4
      cases h4
    | some o =>
      rw [q] at h4
      exact ⟨o, rfl, h4⟩
  exact ⟨⟨t, b1, fun p hp => (key p hp).1, fun p hp => by
    obtain ⟨_, o, q, z⟩ := key p hp
    exact frT_none q z, fun p hp => by
    obtain ⟨_, o, q, z⟩ := key p hp
    rw [q, emptyTab_eq z]⟩, congrArg (·.2) d⟩
abbrev ObL : Type := Bool × Bool × Bool × (List FnW × FnW)
def obL (g : Addr → Option Obj) : ObL := (oA g, oB g, oC g, oD g)
def hkL : PySem.W.Hook where
  α := ObL
  obs := fun s => obL s.heap.get?
  val := fun _ => (true, true, true, vD)
  says := fun w h => ∃ K : PySem.W.Frag, K.In h ∧ SaysX faL fnL [] tfL exB w h K ∧ fnWA K (pgA K) = dDisc.val
  of := fun _ _ e => ⟨_, frT_in, says_of (congrArg (fun z : ObL => z.1) e) (congrArg (fun z : ObL => z.2.1) e) (congrArg (fun z : ObL => z.2.2.1) e) (congrArg (fun z : ObL => z.2.2.2) e)⟩
  keeps := fun _ _ _ ⟨K, hK, c, d⟩ k => ⟨K, PySem.W.Frag.In.keeps hK k, ⟨c.t, c.more, c.hd, c.out, fun p hp => k _ _ (c.empty p hp)⟩, d⟩
def ob (s : SharedT) : ObL := obL (HandSHeadRun.getT s)
theorem ob_eq (s : SharedT) : ob s = hkL.obs s.abs := by
  have e : HandSHeadRun.getT s = s.abs.heap.get? := funext (HandSHeadRun.getT_eq s)
  unfold ob
  rw [e]
  rfl
/-- the run -/
noncomputable def wh (w : World) : Option (Shared × SharedT) := HandSHeadRun.wholeF (fun p => HandSHeadRun.stepQ (HandSHeadRun.denQ HandSHeadRun.tabQ) p w) HandSHeadRun.fenceQ 20000 R.prog
theorem run_of {w : World} (l : (wh w).map (fun x => HandSHeadRun.looksF R.prog x.1.heap x.2.abs) = some true) (s : (wh w).map (fun x => HandSHeadRun.seenQ qv names (importedModules R.prog.main.body) (fun s => xlAt qv [] s && recOk R.toRowW.records s) x.2.abs) = some (openGood qv names))
    (a : (wh w).map (fun x => oA (HandSHeadRun.getT x.2)) = some true) (bd : (wh w).map (fun x => (oB (HandSHeadRun.getT x.2), oD (HandSHeadRun.getT x.2))) = some (true, vD)) (c : (wh w).map (fun x => oC (HandSHeadRun.getT x.2)) = some true) : HandSHeadRun.RunEqI R qv hkL ob 20000 names w := by
  show (wh w).map _ = _
  cases e : wh w with
  | none =>
    rw [e] at l
    cases l
  | some x =>
    rw [e] at l s a bd c
    have l := Option.some.inj l
    have s := Option.some.inj s
    have a := Option.some.inj a
    have bd := Option.some.inj bd
    have c := Option.some.inj c
    show some (_, _, oA (HandSHeadRun.getT x.2), oB (HandSHeadRun.getT x.2), oC (HandSHeadRun.getT x.2), oD (HandSHeadRun.getT x.2)) = some (true, openGood qv names, true, true, true, vD)
    have l : HandSHeadRun.looksF R.prog x.1.heap x.2.abs = true := l
    have s : HandSHeadRun.seenQ qv names (importedModules R.prog.main.body) (fun s => xlAt qv [] s && recOk R.toRowW.records s) x.2.abs = openGood qv names := s
    have a : oA (HandSHeadRun.getT x.2) = true := a
    have b : oB (HandSHeadRun.getT x.2) = true := congrArg (·.1) bd
    have c : oC (HandSHeadRun.getT x.2) = true := c
    have d : oD (HandSHeadRun.getT x.2) = vD := congrArg (·.2) bd
    rw [l, s, a, b, c, d]
end Fr
namespace Fr
open PySem PySem.W PySem.Calls PyProof.Rows He
theorem runL (w : World) : (wh w).map (fun x => HandSHeadRun.looksF R.prog x.1.heap x.2.abs) = some true := by
  kernel_rfl
end Fr
namespace Fr
open PySem PySem.W PySem.Calls PyProof.Rows He
theorem runS (w : World) : (wh w).map (fun x => HandSHeadRun.seenQ qv names (importedModules R.prog.main.body) (fun s => xlAt qv [] s && recOk R.toRowW.records s) x.2.abs) = some (openGood qv names) := by
  kernel_rfl
end Fr
namespace Fr
open PySem PySem.W PySem.Calls PyProof.Rows He
theorem runA (w : World) : (wh w).map (fun x => oA (HandSHeadRun.getT x.2)) = some true := by
  kernel_rfl
end Fr
namespace Fr
open PySem PySem.W PySem.Calls PyProof.Rows He
theorem runB (w : World) : (wh w).map (fun x => (oB (HandSHeadRun.getT x.2), oD (HandSHeadRun.getT x.2))) = some (true, vD) := by
  kernel_rfl
end Fr
namespace Fr
open PySem PySem.W PySem.Calls PyProof.Rows He
theorem runC (w : World) : (wh w).map (fun x => oC (HandSHeadRun.getT x.2)) = some true := by
  kernel_rfl
end Fr
set_option maxHeartbeats 2000000
namespace Fr
open PySem PySem.Spec PyProof.Rows L2
/-! ### data -/
inductive D where
  | int (i : Int) | bl (b : Bool) | non | str (s : Str) | tup (l : List D) | lst (l : List D) | obj (k : Bool) (d : D)
/-- what a proof leans on: the program, the written part, the classes Form, KeptForm -/
structure Tx where
  P : Program
  w : World
  K : PySem.W.Frag
  mg : Str → Option Value
  base : Heap
  cF : Addr
  cK : Addr
  cW : Addr
  tabs : List Addr
def Tx.cls (T : Tx) : Bool → Addr
  | true => T.cF
  | false => T.cK
mutual
def Rep (T : Tx) (H : Hp) : D → V → Prop
  | .int i, v => v = .int i
  | .bl b, v => v = .bl b
  | .non, v => v = .non
  | .str s, v => v = .str s
  | .tup l, v => ∃ a vs, v = .ref a ∧ SqT T.K H a vs ∧ Reps T H l vs
  | .lst l, v => ∃ a vs, v = .ref a ∧ SqL T.K H a vs ∧ Reps T H l vs
  | .obj k d, v => ∃ a dx w, v = .ref a ∧ SlX.Slt H a (T.cls k) dx [some w] ∧ Rep T H d w
def Reps (T : Tx) (H : Hp) : List D → List V → Prop
  | [], vs => vs = []
  | d :: ds, vs => ∃ v r, vs = v :: r ∧ Rep T H d v ∧ Reps T H ds r
end
/-! ### heaps -/
def Grow (o o' : HO) : Prop := o' = o ∨ ∃ ps more, o = .tbl ps ∧ o' = .tbl (ps ++ more) ∧ (TriplesOk ps.toList → TriplesOk (ps ++ more).toList)
def Ext (H H' : Hp) : Prop := ∀ a o, H a = some o → ∃ o', H' a = some o' ∧ Grow o o'
theorem Grow.trans {a b c : HO} (h : Grow a b) (k : Grow b c) : Grow a c := by
  rcases h with rfl | ⟨ps, m, rfl, rfl, t⟩
  · exact k
  · rcases k with rfl | ⟨ps2, m2, e, rfl, t2⟩
    · exact .inr ⟨ps, m, rfl, rfl, t⟩
    · injection e with e
      subst e
      exact .inr ⟨ps, m ++ m2, rfl, by rw [Array.append_assoc], fun z => by rw [← Array.append_assoc]; exact t2 (t z)⟩
theorem Ext.refl (H : Hp) : Ext H H := fun a o h => ⟨o, h, .inl rfl⟩
theorem Ext.trans {H H1 H2 : Hp} (h : Ext H H1) (k : Ext H1 H2) : Ext H H2 := fun a o e => by
  obtain ⟨o1, e1, g1⟩ := h a o e
  obtain ⟨o2, e2, g2⟩ := k a o1 e1
  exact ⟨o2, e2, g1.trans g2⟩
theorem Ext.sub {H H' : Hp} (h : ∀ a o, H a = some o → H' a = some o) : Ext H H' := fun a o e => ⟨o, h a o e, .inl rfl⟩
theorem Ext.at {H H' : Hp} (h : Ext H H') {a : Addr} {o : HO} (e : H a = some o) (nt : ∀ ps, o ≠ .tbl ps) : H' a = some o := by
  obtain ⟨o', e', g⟩ := h a o e
  rcases g with rfl | ⟨ps, _, q, _⟩
  · exact e'
  · exact (nt ps q).elim
theorem Ext.free {H H' : Hp} (h : Ext H H') {p : Addr} (e : H' p = none) : H p = none := by
  cases q : H p with
  | none => rfl
  | some o =>
    obtain ⟨o', e', _⟩ := h p o q
    rw [e] at e'
    cases e'
theorem Ext.new {H : Hp} {p : Addr} {o : HO} (h : H p = none) : Ext H (upd H p o) := Ext.sub fun a u e => by
  rw [upd_ne (ne_of_none e h)]
  exact e
theorem Ext.tab {H H' : Hp} (h : Ext H H') {P : Addr} (t : GxR.TabG H P) : GxR.TabG H' P := by
  obtain ⟨ps, e, z⟩ := t
  obtain ⟨o', e', g⟩ := h P _ e
  rcases g with rfl | ⟨ps2, m, q, rfl, t2⟩
  · exact ⟨ps, e', z⟩
  · injection q with q
    subst q
    exact ⟨_, e', t2 z⟩
/-- the heap without some addresses -/
abbrev Hid := Addr → Prop
open Classical in
noncomputable def del (H : Hp) (ps : Hid) : Hp := fun a => if ps a then none else H a
theorem del_in {H : Hp} {ps : Hid} {a : Addr} {o : HO} (h : del H ps a = some o) : H a = some o ∧ ¬ ps a := by
  unfold del at h
  split at h
  · cases h
  · rename_i n
    exact ⟨h, n⟩
theorem del_of {H : Hp} {ps : Hid} {a : Addr} (n : ¬ ps a) : del H ps a = H a := by
  unfold del
  rw [if_neg n]
theorem ext_del {H : Hp} {ps : Hid} : Ext (del H ps) H := Ext.sub fun a o e => (del_in e).1
theorem Ext.del {H H' : Hp} (h : Ext H H') (ps : Hid) : Ext (del H ps) (del H' ps) := fun a o e => by
  obtain ⟨e, n⟩ := del_in e
  obtain ⟨o', e', g⟩ := h a o e
  exact ⟨o', by rw [del_of n]; exact e', g⟩
structure HidOk (T : Tx) (H : Hp) (ps : Hid) : Prop where
  there : ∀ a, ps a → H a ≠ none
  tab : ∀ P ∈ T.tabs, GxR.TabG H P
theorem HidOk.mono {T : Tx} {H H' : Hp} {ps : Hid} (h : HidOk T H ps) (e : Ext H H') : HidOk T H' ps := ⟨fun a q z => h.there a q (e.free z), fun P hP => e.tab (h.tab P hP)⟩
theorem HidOk.out {T : Tx} {H : Hp} {ps : Hid} (h : HidOk T H ps) {p : Addr} (n : H p = none) : ¬ ps p := fun q => h.there p q n
/-! ### what may change -/
def NoTbl (o : HO) : Prop := ∀ ps, o ≠ .tbl ps
def ExtM (m : Hid) (H H' : Hp) : Prop := ∀ a o, H a = some o → ∃ o', H' a = some o' ∧ (Grow o o' ∨ (m a ∧ NoTbl o))
theorem Ext.m {m : Hid} {H H' : Hp} (h : Ext H H') : ExtM m H H' := fun a o e => by
  obtain ⟨o', e', g⟩ := h a o e
  exact ⟨o', e', .inl g⟩
theorem ExtM.trans {m : Hid} {H H1 H2 : Hp} (h : ExtM m H H1) (k : ExtM m H1 H2) : ExtM m H H2 := fun a o e => by
  obtain ⟨o1, e1, g1⟩ := h a o e
  obtain ⟨o2, e2, g2⟩ := k a o1 e1
  refine ⟨o2, e2, ?_⟩
  rcases g1 with g1 | g1
  · rcases g2 with g2 | ⟨g2, n2⟩
    · exact .inl (g1.trans g2)
    · refine .inr ⟨g2, fun ps z => ?_⟩
      rcases g1 with rfl | ⟨qs, more, e, rfl, _⟩
      · exact n2 ps z
      · exact n2 _ rfl
  · exact .inr g1
theorem ExtM.sub {m n : Hid} {H H' : Hp} (h : ExtM m H H') (k : ∀ a, m a → n a) : ExtM n H H' := fun a o e => by
  obtain ⟨o', e', g⟩ := h a o e
  exact ⟨o', e', g.imp id fun ⟨z, w⟩ => ⟨k a z, w⟩⟩
theorem ExtM.free {m : Hid} {H H' : Hp} (h : ExtM m H H') {p : Addr} (e : H' p = none) : H p = none := by
  cases q : H p with
  | none => rfl
  | some o =>
    obtain ⟨o', e', _⟩ := h p o q
    rw [e] at e'
    cases e'
theorem ExtM.tab {m : Hid} {H H' : Hp} (h : ExtM m H H') {P : Addr} (t : GxR.TabG H P) : GxR.TabG H' P := by
  obtain ⟨ps, e, z⟩ := t
  obtain ⟨o', e', g⟩ := h P _ e
  rcases g with (rfl | ⟨ps2, m2, q, rfl, t2⟩) | ⟨_, g⟩
  · exact ⟨ps, e', z⟩
  · injection q with q
    subst q
    exact ⟨_, e', t2 z⟩
  · exact (g _ rfl).elim
theorem ExtM.del {m : Hid} {H H' : Hp} (h : ExtM m H H') {ps : Hid} (k : ∀ a, m a → ps a) : Ext (del H ps) (del H' ps) := fun a o e => by
  obtain ⟨e, n⟩ := del_in e
  obtain ⟨o', e', g⟩ := h a o e
  refine ⟨o', by rw [del_of n]; exact e', ?_⟩
  rcases g with g | ⟨g, _⟩
  · exact g
  · exact (n (k a g)).elim
theorem ExtM.ext {m : Hid} {H H' : Hp} (h : ExtM m H H') (k : ∀ a, m a → H a = none) : Ext H H' := fun a o e => by
  obtain ⟨o', e', g⟩ := h a o e
  rcases g with g | ⟨g, _⟩
  · exact ⟨o', e', g⟩
  · rw [k a g] at e
    cases e
/-- what was new may change, seen from before -/
theorem ExtM.drop {m n : Hid} {H H' : Hp} (h : ExtM (fun a => m a ∨ n a) H H') (k : ∀ a, n a → H a = none) : ExtM m H H' := fun a o e => by
  obtain ⟨o', e', g⟩ := h a o e
  refine ⟨o', e', ?_⟩
  rcases g with g | ⟨g | g, z⟩
  · exact .inl g
  · exact .inr ⟨g, z⟩
  · rw [k a g] at e
    cases e
theorem HidOk.monoM {T : Tx} {m : Hid} {H H' : Hp} {ps : Hid} (h : HidOk T H ps) (e : ExtM m H H') : HidOk T H' ps := ⟨fun a q z => h.there a q (e.free z), fun P hP => e.tab (h.tab P hP)⟩
/-- hidden, and what may change is hidden -/
structure HM (T : Tx) (m : Hid) (H : Hp) (ps : Hid) : Prop extends HidOk T H ps where
  sub : ∀ a, m a → ps a
theorem HM.mono {T : Tx} {m : Hid} {H H' : Hp} {ps : Hid} (h : HM T m H ps) (e : ExtM m H H') : HM T m H' ps := ⟨h.toHidOk.monoM e, h.sub⟩
theorem HM.monoE {T : Tx} {m : Hid} {H H' : Hp} {ps : Hid} (h : HM T m H ps) (e : Ext H H') : HM T m H' ps := ⟨h.toHidOk.mono e, h.sub⟩
section
variable {T : Tx} {H H' : Hp}
theorem sqT_ext {K : PySem.W.Frag} {a : Addr} {xs : List V} (e : Ext H H') (h : SqT K H a xs) : SqT K H' a xs := by
  rcases h with (h | ⟨o, h⟩) | h
  · exact .inl (.inl (e.at h fun _ z => by cases z))
  · exact .inl (.inr ⟨o, e.at h fun _ z => by cases z⟩)
  · exact .inr h
theorem sqL_ext {K : PySem.W.Frag} {a : Addr} {xs : List V} (e : Ext H H') (h : SqL K H a xs) : SqL K H' a xs := by
  rcases h with (h | ⟨o, h⟩) | h
  · exact .inl (.inl (e.at h fun _ z => by cases z))
  · exact .inl (.inr ⟨o, e.at h fun _ z => by cases z⟩)
  · exact .inr h
theorem slt_ext {a C dx : Addr} {vs : List (Option V)} (e : Ext H H') (h : SlX.Slt H a C dx vs) : SlX.Slt H' a C dx vs := by
  rcases h with ⟨h, q⟩ | ⟨h, q⟩
  · exact .inl ⟨e.at h (fun _ z => by cases z), q⟩
  · exact .inr ⟨e.at h (fun _ z => by unfold SlX.SlO at z; cases z), e.at q (fun _ z => by cases z)⟩
mutual
theorem Rep.ext (e : Ext H H') : ∀ (d : D) (v : V), Rep T H d v → Rep T H' d v
  | .int _, _, h => h
  | .bl _, _, h => h
  | .non, _, h => h
  | .str _, _, h => h
  | .tup l, v, h => by
    unfold Rep at h ⊢
    obtain ⟨a, vs, e1, s, r⟩ := h
    exact ⟨a, vs, e1, sqT_ext e s, Reps.ext e l vs r⟩
  | .lst l, v, h => by
    unfold Rep at h ⊢
    obtain ⟨a, vs, e1, s, r⟩ := h
    exact ⟨a, vs, e1, sqL_ext e s, Reps.ext e l vs r⟩
  | .obj k d, v, h => by
    unfold Rep at h ⊢
    obtain ⟨a, dx, w, e1, s, r⟩ := h
    exact ⟨a, dx, w, e1, slt_ext e s, Rep.ext e d w r⟩
theorem Reps.ext (e : Ext H H') : ∀ (l : List D) (vs : List V), Reps T H l vs → Reps T H' l vs
  | [], _, h => h
  | d :: ds, vs, h => by
    unfold Reps at h ⊢
    obtain ⟨v, r, e1, q, t⟩ := h
    exact ⟨v, r, e1, Rep.ext e d v q, Reps.ext e ds r t⟩
end
theorem rep_int {i : Int} {v : V} : Rep T H (.int i) v ↔ v = .int i := by unfold Rep; exact Iff.rfl
theorem rep_bl {i : Bool} {v : V} : Rep T H (.bl i) v ↔ v = .bl i := by unfold Rep; exact Iff.rfl
theorem rep_non {v : V} : Rep T H .non v ↔ v = .non := by unfold Rep; exact Iff.rfl
theorem rep_str {i : Str} {v : V} : Rep T H (.str i) v ↔ v = .str i := by unfold Rep; exact Iff.rfl
theorem rep_tup {l : List D} {v : V} : Rep T H (.tup l) v ↔ ∃ a vs, v = .ref a ∧ SqT T.K H a vs ∧ Reps T H l vs := by
  rw [show Rep T H (.tup l) v = (∃ a vs, v = .ref a ∧ SqT T.K H a vs ∧ Reps T H l vs) by unfold Rep; rfl]
theorem rep_lst {l : List D} {v : V} : Rep T H (.lst l) v ↔ ∃ a vs, v = .ref a ∧ SqL T.K H a vs ∧ Reps T H l vs := by
  rw [show Rep T H (.lst l) v = (∃ a vs, v = .ref a ∧ SqL T.K H a vs ∧ Reps T H l vs) by unfold Rep; rfl]
theorem rep_obj {k : Bool} {d : D} {v : V} : Rep T H (.obj k d) v ↔ ∃ a dx w, v = .ref a ∧ SlX.Slt H a (T.cls k) dx [some w] ∧ Rep T H d w := by
  rw [show Rep T H (.obj k d) v = (∃ a dx w, v = .ref a ∧ SlX.Slt H a (T.cls k) dx [some w] ∧ Rep T H d w) by rw [Rep]]
theorem reps_nil {vs : List V} : Reps T H [] vs ↔ vs = [] := by unfold Reps; exact Iff.rfl
theorem reps_cons {d : D} {ds : List D} {vs : List V} : Reps T H (d :: ds) vs ↔ ∃ v r, vs = v :: r ∧ Rep T H d v ∧ Reps T H ds r := by
  rw [show Reps T H (d :: ds) vs = (∃ v r, vs = v :: r ∧ Rep T H d v ∧ Reps T H ds r) by rw [Reps]]
theorem reps_len : ∀ {l : List D} {vs : List V}, Reps T H l vs → vs.length = l.length
  | [], vs, h => by
    have e := reps_nil.mp h
    subst e
    rfl
  | d :: ds, vs, h => by
    obtain ⟨v, r, rfl, _, t⟩ := reps_cons.mp h
    rw [List.length_cons, List.length_cons, reps_len t]
theorem reps_get : ∀ {l : List D} {vs : List V} {i : Nat} {d : D}, Reps T H l vs → l[i]? = some d → ∃ v, vs[i]? = some v ∧ Rep T H d v
  | [], _, _, _, _, e => by simp at e
  | x :: xs, vs, 0, d, h, e => by
    obtain ⟨v, r, rfl, q, _⟩ := reps_cons.mp h
    simp at e
    subst e
    exact ⟨v, rfl, q⟩
  | x :: xs, vs, i + 1, d, h, e => by
    obtain ⟨v, r, rfl, _, t⟩ := reps_cons.mp h
    obtain ⟨y, e1, q⟩ := reps_get (i := i) t (by simpa using e)
    exact ⟨y, by simpa using e1, q⟩
theorem reps_back : ∀ {l : List D} {vs : List V} {i : Nat} {v : V}, Reps T H l vs → vs[i]? = some v → ∃ d, l[i]? = some d ∧ Rep T H d v
  | [], vs, i, v, h, e => by rw [reps_nil.mp h] at e; simp at e
  | x :: xs, vs, 0, v, h, e => by
    obtain ⟨y, r, rfl, q, _⟩ := reps_cons.mp h
    simp at e
    subst e
    exact ⟨x, rfl, q⟩
  | x :: xs, vs, i + 1, v, h, e => by
    obtain ⟨y, r, rfl, _, t⟩ := reps_cons.mp h
    obtain ⟨d, e1, q⟩ := reps_back (i := i) t (by simpa using e)
    exact ⟨d, by simpa using e1, q⟩
theorem reps_app : ∀ {l m : List D} {vs ws : List V}, Reps T H l vs → Reps T H m ws → Reps T H (l ++ m) (vs ++ ws)
  | [], m, vs, ws, h, k => by rw [reps_nil.mp h]; exact k
  | x :: xs, m, vs, ws, h, k => by
    obtain ⟨y, r, rfl, q, t⟩ := reps_cons.mp h
    exact reps_cons.mpr ⟨y, r ++ ws, rfl, q, reps_app t k⟩
theorem reps_set : ∀ {l : List D} {vs : List V} {i : Nat} {d : D} {v : V}, Reps T H l vs → Rep T H d v → Reps T H (l.set i d) (vs.set i v)
  | [], vs, i, d, v, h, _ => by rw [reps_nil.mp h]; exact reps_nil.mpr rfl
  | x :: xs, vs, 0, d, v, h, k => by
    obtain ⟨y, r, rfl, _, t⟩ := reps_cons.mp h
    exact reps_cons.mpr ⟨v, r, rfl, k, t⟩
  | x :: xs, vs, i + 1, d, v, h, k => by
    obtain ⟨y, r, rfl, q, t⟩ := reps_cons.mp h
    exact reps_cons.mpr ⟨y, r.set i v, rfl, q, reps_set t k⟩
theorem reps_ints : ∀ {l : List Int} {vs : List V}, Reps T H (l.map .int) vs ↔ vs = l.map .int
  | [], vs => reps_nil
  | x :: xs, vs => by
    constructor
    · intro h
      obtain ⟨y, r, rfl, q, t⟩ := reps_cons.mp h
      rw [rep_int.mp q, reps_ints.mp t]
      rfl
    · rintro rfl
      exact reps_cons.mpr ⟨_, _, rfl, rep_int.mpr rfl, reps_ints.mpr rfl⟩
end
end Fr
namespace Fr
open PySem PySem.Spec PyProof.Rows L2
/-! ### the abstract frame -/
/-- a slot: data; a value; an own list at L; an own Walk at a; (of a value handed back:) a new list; data, once L is own no more -/
inductive Sl where
  | d (x : D) | raw (v : V) | cl (L : Addr) (l : List D) | cw (a dx : Addr) (ch nu : D) | new (l : List D) | ret (L : Addr) (d : D)
abbrev En := List (Option Sl)
def ClR (T : Tx) (H : Hp) (ps : Hid) (L : Addr) (l : List D) : Prop := ps L ∧ ∃ vs, H L = some (.lst vs) ∧ Reps T (del H ps) l vs
def CwR (T : Tx) (H : Hp) (ps : Hid) (a dx : Addr) (ch nu : D) : Prop := ps a ∧ ps dx ∧ ∃ u w, SlX.Slt H a T.cW dx [some u, some w] ∧ Rep T (del H ps) ch u ∧ Rep T (del H ps) nu w
def RelS (T : Tx) (H : Hp) (ps : Hid) : Option Sl → Option V → Prop
  | none, _ => True
  | some (.d x), some v => Rep T (del H ps) x v
  | some (.raw w), some v => v = w
  | some (.cl L l), some v => v = .ref L ∧ ClR T H ps L l
  | some (.cw a dx ch nu), some v => v = .ref a ∧ CwR T H ps a dx ch nu
  | some (.new _), _ => False
  | some (.ret _ _), _ => False
  | _, none => False
def EnvR (T : Tx) (H : Hp) (ps : Hid) : En → L2.St → Prop := Paired (RelS T H ps)
section
variable {T : Tx} {H H' : Hp} {ps : Hid} {ρ : En} {σ : L2.St}
theorem ClR.ext {L : Addr} {l : List D} (e : Ext H H') (h : ClR T H ps L l) : ClR T H' ps L l := by
  obtain ⟨p, vs, q, r⟩ := h
  exact ⟨p, vs, e.at q (fun _ z => by cases z), Reps.ext (e.del ps) _ _ r⟩
theorem CwR.ext {a dx : Addr} {ch nu : D} (e : Ext H H') (h : CwR T H ps a dx ch nu) : CwR T H' ps a dx ch nu := by
  obtain ⟨p, p2, u, w, s, r1, r2⟩ := h
  exact ⟨p, p2, u, w, slt_ext e s, Rep.ext (e.del ps) _ _ r1, Rep.ext (e.del ps) _ _ r2⟩
theorem RelS.ext (e : Ext H H') : ∀ {x : Option Sl} {v : Option V}, RelS T H ps x v → RelS T H' ps x v
  | none, _, _ => True.intro
  | some (.d x), some v, h => Rep.ext (e.del ps) x v h
  | some (.raw w), some v, h => h
  | some (.cl _ _), some v, ⟨h1, h2⟩ => ⟨h1, h2.ext e⟩
  | some (.cw _ _ _ _), some v, ⟨h1, h2⟩ => ⟨h1, h2.ext e⟩
  | some (.new _), some _, h => h
  | some (.new _), none, h => h
  | some (.ret _ _), some _, h => h
  | some (.ret _ _), none, h => h
  | some (.d _), none, h => h
  | some (.raw _), none, h => h
  | some (.cl _ _), none, h => h
  | some (.cw _ _ _ _), none, h => h
theorem EnvR.ext (h : EnvR T H ps ρ σ) (e : Ext H H') : EnvR T H' ps ρ σ := Paired.mapP h fun _ _ r => r.ext e
theorem EnvR.len (h : EnvR T H ps ρ σ) : ρ.length = σ.length := Paired.length h
theorem relS_some {x : Sl} {v : Option V} (h : RelS T H ps (some x) v) : ∃ w, v = some w := by
  cases v with
  | none => cases x <;> exact h.elim
  | some w => exact ⟨w, rfl⟩
theorem envR_get : ∀ {ρ : En} {σ : L2.St} {i : Nat} {x : Sl}, EnvR T H ps ρ σ → ρ[i]? = some (some x) → ∃ v, σ[i]? = some (some v) ∧ RelS T H ps (some x) (some v)
  | _, _, _, _, .nil, e => by simp at e
  | _, _, 0, x, .cons (b := v) r _, e => by
    simp at e
    subst e
    obtain ⟨w, rfl⟩ := relS_some r
    exact ⟨w, rfl, r⟩
  | _, _, i + 1, x, .cons _ t, e => by
    obtain ⟨v, h1, h2⟩ := envR_get (i := i) (x := x) t (by simpa using e)
    exact ⟨v, by simpa using h1, h2⟩
theorem envR_set {x : Option Sl} {v : Option V} (r : RelS T H ps x v) : ∀ {ρ : En} {σ : L2.St} (i : Nat), EnvR T H ps ρ σ → EnvR T H ps (ρ.set i x) (σ.set i v)
  | _, _, _, .nil => .nil
  | _, _, 0, .cons _ t => .cons r t
  | _, _, i + 1, .cons q t => .cons q (envR_set r i t)
/-- a slot forgotten -/
theorem envR_drop : ∀ {ρ : En} {σ : L2.St} (i : Nat) (o : Option V), EnvR T H ps ρ σ → EnvR T H ps (ρ.set i none) (σ.set i o) := fun i o h => envR_set (x := none) (v := o) True.intro i h
theorem envR_reps : ∀ {l : List D} {vs : List V}, Reps T (del H ps) l vs → EnvR T H ps (l.map fun d => some (.d d)) (vs.map some)
  | [], vs, h => by
    have e := reps_nil.mp h
    subst e
    exact .nil
  | d :: ds, vs, h => by
    obtain ⟨v, r, rfl, q, t⟩ := reps_cons.mp h
    exact .cons q (envR_reps t)
theorem envR_none : ∀ (n : Nat), EnvR T H ps (List.replicate n none) (List.replicate n none)
  | 0 => .nil
  | n + 1 => .cons True.intro (envR_none n)
theorem envR_app : ∀ {ρ ρ' : En} {σ σ' : L2.St}, EnvR T H ps ρ σ → EnvR T H ps ρ' σ' → EnvR T H ps (ρ ++ ρ') (σ ++ σ')
  | _, _, _, _, .nil, h => h
  | _, _, _, _, .cons q t, h => .cons q (envR_app t h)
/-- one more address hidden, that was free -/
theorem ext_hide {H H' : Hp} {ps n : Hid} (k : ∀ a, n a → H a = none) (e : Ext H H') : Ext (del H ps) (del H' fun a => ps a ∨ n a) := fun a o q => by
  obtain ⟨q, np⟩ := del_in q
  obtain ⟨o', e', g⟩ := e a o q
  refine ⟨o', ?_, g⟩
  rw [del_of]
  · exact e'
  · rintro (z | z)
    · exact np z
    · rw [k a z] at q
      cases q
theorem RelS.hide {n : Hid} (k : ∀ a, n a → H a = none) (e : Ext H H') : ∀ {x : Option Sl} {v : Option V}, RelS T H ps x v → RelS T H' (fun a => ps a ∨ n a) x v
  | none, _, _ => True.intro
  | some (.d x), some v, h => Rep.ext (ext_hide k e) x v h
  | some (.raw w), some v, h => h
  | some (.cl _ _), some v, ⟨h1, p, vs, q, r⟩ => ⟨h1, .inl p, vs, e.at q (fun _ z => by cases z), Reps.ext (ext_hide k e) _ _ r⟩
  | some (.cw _ _ _ _), some v, ⟨h1, p, p2, u, w, s, r1, r2⟩ => ⟨h1, .inl p, .inl p2, u, w, slt_ext e s, Rep.ext (ext_hide k e) _ _ r1, Rep.ext (ext_hide k e) _ _ r2⟩
  | some (.new _), some _, h => h
  | some (.new _), none, h => h
  | some (.ret _ _), some _, h => h
  | some (.ret _ _), none, h => h
  | some (.d _), none, h => h
  | some (.raw _), none, h => h
  | some (.cl _ _), none, h => h
  | some (.cw _ _ _ _), none, h => h
theorem EnvR.hide {n : Hid} (h : EnvR T H ps ρ σ) (k : ∀ a, n a → H a = none) (e : Ext H H') : EnvR T H' (fun a => ps a ∨ n a) ρ σ := Paired.mapP h fun _ _ r => r.hide k e
/-- no own cell in the frame -/
def plainS : Option Sl → Bool
  | some (.cl _ _) => false
  | some (.cw _ _ _ _) => false
  | _ => true
def plainE (ρ : En) : Bool := ρ.all plainS
theorem RelS.mut {m : Hid} (e : ExtM m H H') (k : ∀ a, m a → ps a) : ∀ {x : Option Sl} {v : Option V}, plainS x = true → RelS T H ps x v → RelS T H' ps x v
  | none, _, _, _ => True.intro
  | some (.d x), some v, _, h => Rep.ext (e.del k) x v h
  | some (.raw w), some v, _, h => h
  | some (.cl _ _), _, z, _ => by cases z
  | some (.cw _ _ _ _), _, z, _ => by cases z
  | some (.new _), some _, _, h => h
  | some (.new _), none, _, h => h
  | some (.ret _ _), some _, _, h => h
  | some (.ret _ _), none, _, h => h
  | some (.d _), none, _, h => h
  | some (.raw _), none, _, h => h
theorem EnvR.mutAll {m : Hid} (e : ExtM m H H') (k : ∀ a, m a → ps a) : ∀ {ρ : En} {σ : L2.St}, EnvR T H ps ρ σ → plainE ρ = true → EnvR T H' ps ρ σ
  | _, _, .nil, _ => .nil
  | _, _, .cons q t, z => by
    rw [plainE, List.all_cons, Bool.and_eq_true] at z
    exact .cons (q.mut e k z.1) (EnvR.mutAll e k t z.2)
/-- a cell has changed: its slot is j -/
theorem EnvR.mut {m : Hid} {x : Option Sl} {v : Option V} (e : ExtM m H H') (k : ∀ a, m a → ps a) (r : RelS T H' ps x v) : ∀ {ρ : En} {σ : L2.St} (j : Nat), EnvR T H ps ρ σ → plainE (ρ.set j none) = true → EnvR T H' ps (ρ.set j x) (σ.set j v)
  | _, _, _, .nil, _ => .nil
  | _, _, 0, .cons _ t, z => .cons r (EnvR.mutAll e k t (by rw [List.set_cons_zero, plainE, List.all_cons, Bool.and_eq_true] at z; exact z.2))
  | _, _, j + 1, .cons q t, z => by
    rw [List.set_cons_succ, plainE, List.all_cons, Bool.and_eq_true] at z
    exact .cons (q.mut e k z.1) (EnvR.mut e k r j t z.2)
end
/-- at the entry -/
def startE (N : List Str) (ds : List D) : En := ds.map (fun d => some (.d d)) ++ List.replicate (N.length - ds.length) none
theorem envR_start {T : Tx} {H : Hp} {N : List Str} {ds : List D} {vs : List V} {ps : Hid} (h : Reps T (del H ps) ds vs) : EnvR T H ps (startE N ds) (L2.start N vs) := by
  unfold startE L2.start
  rw [reps_len h]
  exact envR_app (envR_reps h) (envR_none _)
/-! ### what evaluates to what -/
def AE (T : Tx) (te : TE) (ρ : En) (d : D) : Prop := ∀ (ps : Hid) (σ : L2.St) (H : Hp), HidOk T H ps → EnvR T H ps ρ σ → ∀ Q : VK, (∀ v H', Ext H H' → Rep T (del H' ps) d v → Q v H') → te σ H Q
def AT (T : Tx) (tt : TT) (ρ : En) (b : Bool) : Prop := ∀ (ps : Hid) (σ : L2.St) (H : Hp), HidOk T H ps → EnvR T H ps ρ σ → ∀ Q : Bool → Hp → Prop, (∀ H', Ext H H' → Q b H') → tt σ H Q
def AA (T : Tx) (ta : TA) (ρ : En) (l : List D) : Prop := ∀ (ps : Hid) (σ : L2.St) (H : Hp), HidOk T H ps → EnvR T H ps ρ σ → ∀ Q : List V → Hp → Prop, (∀ vs H', Ext H H' → Reps T (del H' ps) l vs → Q vs H') → ta σ H Q
/-- a family of contexts that share all that a proof asks -/
structure Fam (T : Tx) (k : Nat) {ι : Type} (X : ι → Cx) : Prop where
  P : ∀ i, (X i).prog = T.P
  w : ∀ i, (X i).w = T.w
  K : ∀ i, (X i).K = T.K
  mg : ∀ i, (X i).mg = T.mg
  base : ∀ i, (X i).base = T.base
  calm : ∀ i, (X i).calm = true
  room : ∀ i, Room k (X i).A
def JE (T : Tx) {ι : Type} (X : ι → Cx) (ρ : En) (e : Expr) (d : D) : Prop := ∃ te, (∀ i, PE (X i) e te) ∧ AE T te ρ d
def JT (T : Tx) {ι : Type} (X : ι → Cx) (ρ : En) (e : Expr) (b : Bool) : Prop := ∃ tt, (∀ i, PT (X i) e tt) ∧ AT T tt ρ b
def JA (T : Tx) {ι : Type} (X : ι → Cx) (ρ : En) (es : List Expr) (l : List D) : Prop := ∃ ta, (∀ i, PA (X i) es ta) ∧ AA T ta ρ l
/-- an int, with its size -/
def Sm (n : Nat) (i : Int) : Prop := i.natAbs < 2 ^ (n + 1)
def JI (T : Tx) {ι : Type} (X : ι → Cx) (ρ : En) (e : Expr) (i : Int) (n : Nat) : Prop := JE T X ρ e (.int i) ∧ Sm n i
theorem Sm.add {m n : Nat} {x y : Int} (h : Sm m x) (k : Sm n y) : Sm (m + n + 1) (x + y) := by
  unfold Sm at *
  have h1 : 2 ^ (m + n + 1 + 1) = 2 ^ (m + 1) * 2 ^ (n + 1) := by rw [← Nat.pow_add]; congr 1; omega
  have h2 : 2 ≤ 2 ^ (m + 1) := by
    have := Nat.pow_le_pow_right (show 0 < 2 by decide) (show 1 ≤ m + 1 by omega)
    simpa using this
  have h3 : 2 ≤ 2 ^ (n + 1) := by
    have := Nat.pow_le_pow_right (show 0 < 2 by decide) (show 1 ≤ n + 1 by omega)
    simpa using this
  rw [h1]
  generalize 2 ^ (m + 1) = a at *
  generalize 2 ^ (n + 1) = b at *
  have h4 : a + b ≤ a * b := by
    have : a * 2 ≤ a * b := Nat.mul_le_mul_left a h3
    have : 2 * b ≤ a * b := Nat.mul_le_mul_right b h2
    omega
  omega
theorem Sm.neg {m : Nat} {x : Int} (h : Sm m x) : Sm m (-x) := by
  unfold Sm at *
  omega
theorem Sm.sub {m n : Nat} {x y : Int} (h : Sm m x) (k : Sm n y) : Sm (m + n + 1) (x - y) := h.add k.neg
theorem Sm.mul {m n : Nat} {x y : Int} (h : Sm m x) (k : Sm n y) : Sm (m + n + 1) (x * y) := by
  unfold Sm at *
  have h1 : 2 ^ (m + n + 1 + 1) = 2 ^ (m + 1) * 2 ^ (n + 1) := by rw [← Nat.pow_add]; congr 1; omega
  rw [h1, Int.natAbs_mul]
  exact Nat.mul_lt_mul'' h k
theorem Sm.mono {m n : Nat} {x : Int} (h : Sm m x) (k : m ≤ n) : Sm n x := Nat.lt_of_lt_of_le h (Nat.pow_le_pow_right (by decide) (by omega))
theorem Sm.cmul {m n : Nat} {x y : Int} (h : Sm m x) (k : Sm n y) (z : m + n ≤ 900000) : CMulW x y := wide_mul h k (by omega) (by omega) (by omega)
theorem Sm.div {m : Nat} {x y : Int} (h : Sm m x) (k : 0 < y) : Sm m (x / y) := by
  unfold Sm at *
  refine Nat.lt_of_le_of_lt ?_ h
  exact Int.natAbs_ediv_le_natAbs x y
theorem Sm.mod {n : Nat} {x y : Int} (h : Sm n y) (k : 0 < y) : Sm n (x % y) := by
  unfold Sm at *
  have := Int.emod_lt_of_pos x k
  have := Int.emod_nonneg x (show y ≠ 0 by omega)
  omega
theorem Sm.le {n : Nat} {x : Int} (h : x.natAbs < 2 ^ (n + 1)) : Sm n x := h
section
variable {T : Tx} {ι : Type} {X : ι → Cx} {ρ : En} {k : Nat}
/-! ### names, constants -/
theorem je_var (j : Nat) {x : Str} {pos : Pos} {d : D} (hr : ρ[j]? = some (some (.d d)) := by rfl) (hN : ∀ i, (X i).N[j]? = some x := by intro _; rfl)
    (hv : ∀ i, Vis (X i).env.scope x := by first | exact fun _ => Or.inl rfl | exact fun _ => Or.inr (Or.inl rfl) | exact fun _ => Or.inr (Or.inr rfl))
    (hd : (x == ("__debug__" : Str)) = false := by decide) (hcd : (x == ("__classdict__" : Str)) = false := by decide) : JE T X ρ (.Name x pos) d :=
  ⟨tVar j, fun i => pe_var (hN i) (hv i) hd hcd, fun ps σ H _ hE Q q => by
    obtain ⟨v, h1, h2⟩ := envR_get hE hr
    exact ⟨v, h1, q v H (Ext.refl H) h2⟩⟩
theorem ae_c {v : V} {d : D} (h : ∀ H, Rep T H d v) : AE T (tC v) ρ d := fun ps σ H _ _ Q q => q v H (Ext.refl H) (h _)
theorem je_int {i : Int} {j pos} : JE T X ρ (.Constant (.int i) j pos) (.int i) := ⟨_, fun _ => pe_int, ae_c fun _ => rep_int.mpr rfl⟩
theorem je_bl {b : Bool} {j pos} : JE T X ρ (.Constant (.bool b) j pos) (.bl b) := ⟨_, fun _ => pe_bl, ae_c fun _ => rep_bl.mpr rfl⟩
theorem je_non {j pos} : JE T X ρ (.Constant .none j pos) .non := ⟨_, fun _ => pe_non, ae_c fun _ => rep_non.mpr rfl⟩
theorem je_str {x : Str} {j pos} : JE T X ρ (.Constant (.str x) j pos) (.str x) := ⟨_, fun _ => pe_str, ae_c fun _ => rep_str.mpr rfl⟩
/-- a constant of the module -/
structure Cst (T : Tx) (x : Str) (d : D) : Prop where
  ex : ∃ v u, T.mg x = some u ∧ RelV v u ∧ ∀ H, Rep T H d v
theorem je_glob {x : Str} {pos : Pos} {d : D} (hX : Fam T k X) (c : Cst T x d) (hg : ∀ i, Gl (X i) x := by intro _; rfl) (hd : (x == ("__debug__" : Str)) = false := by decide) : JE T X ρ (.Name x pos) d := by
  obtain ⟨v, u, e, r, h⟩ := c.ex
  exact ⟨tC v, fun i => pe_glob (hg i) (by rw [hX.mg i]; exact e) r hd, ae_c h⟩
theorem JI.int {i : Int} {j pos} (n : Nat) (h : i.natAbs < 2 ^ (n + 1) := by decide) : JI T X ρ (.Constant (.int i) j pos) i n := ⟨je_int, h⟩
theorem JI.of {e : Expr} {i : Int} {n : Nat} (h : JE T X ρ e (.int i)) (s : Sm n i) : JI T X ρ e i n := ⟨h, s⟩
theorem JI.je {e : Expr} {i : Int} {n : Nat} (h : JI T X ρ e i n) : JE T X ρ e (.int i) := h.1
/-! ### arithmetic -/
variable {a b : Expr} {pos : Pos} {i j : Int} {m n : Nat}
theorem ae_op {r : R2} {ta tb : TE} {x y z : D} (ha : AE T ta ρ x) (hb : AE T tb ρ y)
    (hr : ∀ (ps : Hid) (H : Hp) (v u : V) (Q : VK), HidOk T H ps → Rep T (del H ps) x v → Rep T (del H ps) y u → (∀ w H', Ext H H' → Rep T (del H' ps) z w → Q w H') → r v u H Q) : AE T (tOp r ta tb) ρ z := fun ps σ H ho hE Q q =>
  ha ps σ H ho hE _ fun v H1 e1 r1 => hb ps σ H1 (ho.mono e1) (hE.ext e1) _ fun u H2 e2 r2 =>
    hr ps H2 v u Q ((ho.mono e1).mono e2) (Rep.ext (e2.del ps) _ _ r1) r2 fun w H3 e3 r3 => q w H3 ((e1.trans e2).trans e3) r3
theorem ae_I0 {g : Int → Int → V} {z : D} {ta tb : TE} (ha : AE T ta ρ (.int i)) (hb : AE T tb ρ (.int j)) (hg : ∀ H, Rep T H z (g i j)) : AE T (tOp (rI0 g) ta tb) ρ z :=
  ae_op ha hb fun ps H v u Q _ h1 h2 q => ⟨i, j, rep_int.mp h1, rep_int.mp h2, q _ H (Ext.refl H) (hg _)⟩
theorem ae_I {C : Int → Int → Prop} {g : Int → Int → V} {z : D} {ta tb : TE} (ha : AE T ta ρ (.int i)) (hb : AE T tb ρ (.int j)) (hc : C i j) (hg : ∀ H, Rep T H z (g i j)) : AE T (tOp (rI C g) ta tb) ρ z :=
  ae_op ha hb fun ps H v u Q _ h1 h2 q => ⟨i, j, rep_int.mp h1, rep_int.mp h2, hc, q _ H (Ext.refl H) (hg _)⟩
theorem je_op0 {op : Operator} {g : Int → Int → V} {z : D} (ho : ∀ i, OpR (X i) (binaryOp op) (rI0 g)) (hg : ∀ H, Rep T H z (g i j)) (ha : JE T X ρ a (.int i)) (hb : JE T X ρ b (.int j)) : JE T X ρ (.BinOp a op b pos) z := by
  obtain ⟨ta, pa, xa⟩ := ha
  obtain ⟨tb, pb, xb⟩ := hb
  exact ⟨_, fun i => pe_op (ho i) (pa i) (pb i), ae_I0 xa xb hg⟩
theorem je_op1 {op : Operator} {C : Int → Int → Prop} {g : Int → Int → V} {z : D} (ho : ∀ i, OpR (X i) (binaryOp op) (rI C g)) (hg : ∀ H, Rep T H z (g i j)) (hc : C i j) (ha : JE T X ρ a (.int i)) (hb : JE T X ρ b (.int j)) : JE T X ρ (.BinOp a op b pos) z := by
  obtain ⟨ta, pa, xa⟩ := ha
  obtain ⟨tb, pb, xb⟩ := hb
  exact ⟨_, fun i => pe_op (ho i) (pa i) (pb i), ae_I xa xb hc hg⟩
theorem je_add (ha : JE T X ρ a (.int i)) (hb : JE T X ρ b (.int j)) : JE T X ρ (.BinOp a .Add b pos) (.int (i + j)) := je_op0 (fun _ => op_add) (fun _ => rep_int.mpr rfl) ha hb
theorem je_sub (ha : JE T X ρ a (.int i)) (hb : JE T X ρ b (.int j)) : JE T X ρ (.BinOp a .Sub b pos) (.int (i - j)) := je_op0 (fun _ => op_sub) (fun _ => rep_int.mpr rfl) ha hb
theorem JI.add (ha : JI T X ρ a i m) (hb : JI T X ρ b j n) : JI T X ρ (.BinOp a .Add b pos) (i + j) (m + n + 1) := ⟨je_add ha.1 hb.1, ha.2.add hb.2⟩
theorem JI.sub (ha : JI T X ρ a i m) (hb : JI T X ρ b j n) : JI T X ρ (.BinOp a .Sub b pos) (i - j) (m + n + 1) := ⟨je_sub ha.1 hb.1, ha.2.sub hb.2⟩
theorem JI.mul (ha : JI T X ρ a i m) (hb : JI T X ρ b j n) (h : m + n ≤ 900000 := by decide) : JI T X ρ (.BinOp a .Mult b pos) (i * j) (m + n + 1) :=
  ⟨je_op1 (fun _ => op_mulW) (fun _ => rep_int.mpr rfl) (ha.2.cmul hb.2 h) ha.1 hb.1, ha.2.mul hb.2⟩
theorem je_mul (ha : JI T X ρ a i m) (hb : JI T X ρ b j n) (h : m + n ≤ 900000 := by decide) : JE T X ρ (.BinOp a .Mult b pos) (.int (i * j)) := (JI.mul ha hb h).1
/-- // by a positive divisor below 2 ^ 8000 -/
theorem JI.div (ha : JI T X ρ a i m) (hb : JI T X ρ b j n) (h : 0 < j) (hn : n ≤ 8000 := by decide) : JI T X ρ (.BinOp a .FloorDiv b pos) (i / j) m :=
  ⟨je_op1 (fun _ => op_fdivW) (fun _ => rep_int.mpr rfl) (wide_div (i := i) h hb.2 (by omega) (by omega)) ha.1 hb.1, ha.2.div h⟩
theorem je_div (ha : JE T X ρ a (.int i)) (hb : JI T X ρ b j n) (h : 0 < j) (hn : n ≤ 8000 := by decide) : JE T X ρ (.BinOp a .FloorDiv b pos) (.int (i / j)) :=
  je_op1 (fun _ => op_fdivW) (fun _ => rep_int.mpr rfl) (wide_div (i := i) h hb.2 (by omega) (by omega)) ha hb.1
theorem je_mod (ha : JE T X ρ a (.int i)) (hb : JE T X ρ b (.int j)) (h : 0 < j) : JE T X ρ (.BinOp a .Mod b pos) (.int (i % j)) := je_op1 (fun _ => op_mod) (fun _ => rep_int.mpr rfl) h ha hb
theorem je_pow (ha : JE T X ρ a (.int i)) (hb : JE T X ρ b (.int j)) (h : 0 ≤ j ∧ j ≤ 1000000 ∧ i.natAbs < 2 ^ 64) : JE T X ρ (.BinOp a .Pow b pos) (.int (i ^ j.toNat)) := je_op1 (fun _ => op_pow) (fun _ => rep_int.mpr rfl) h ha hb
theorem je_neg (ha : JE T X ρ a (.int i)) : JE T X ρ (.UnaryOp .USub a pos) (.int (-i)) := by
  obtain ⟨ta, pa, xa⟩ := ha
  exact ⟨_, fun i => pe_un un_neg (pa i), fun ps σ H ho hE Q q => xa ps σ H ho hE _ fun v H1 e1 r1 => ⟨i, rep_int.mp r1, q _ H1 e1 (rep_int.mpr rfl)⟩⟩
theorem JI.neg (ha : JI T X ρ a i m) : JI T X ρ (.UnaryOp .USub a pos) (-i) m := ⟨je_neg ha.1, ha.2.neg⟩
/-! ### comparisons of ints -/
theorem je_cmp0 {op : CmpOp} {p : Int → Int → Bool} (ho : ∀ i, OpR (X i) (compareOp op) (rI0 fun i j => .bl (p i j))) (hm : behindInMarks op b = false) (ha : JE T X ρ a (.int i)) (hb : JE T X ρ b (.int j)) : JE T X ρ (.Compare a [op] [b] pos) (.bl (p i j)) := by
  obtain ⟨ta, pa, xa⟩ := ha
  obtain ⟨tb, pb, xb⟩ := hb
  exact ⟨_, fun i => pe_cmpR (ho i) (pa i) (pb i) hm, ae_I0 xa xb fun _ => rep_bl.mpr rfl⟩
theorem je_lt (ha : JE T X ρ a (.int i)) (hb : JE T X ρ b (.int j)) : JE T X ρ (.Compare a [.Lt] [b] pos) (.bl (decide (i < j))) := je_cmp0 (p := fun i j => decide (i < j)) (fun _ => op_lt) (nomark _) ha hb
theorem je_le (ha : JE T X ρ a (.int i)) (hb : JE T X ρ b (.int j)) : JE T X ρ (.Compare a [.LtE] [b] pos) (.bl (decide (i ≤ j))) := je_cmp0 (p := fun i j => decide (i ≤ j)) (fun _ => op_le) (nomark _) ha hb
theorem je_gt (ha : JE T X ρ a (.int i)) (hb : JE T X ρ b (.int j)) : JE T X ρ (.Compare a [.Gt] [b] pos) (.bl (decide (j < i))) := je_cmp0 (p := fun i j => decide (j < i)) (fun _ => op_gt) (nomark _) ha hb
theorem je_ge (ha : JE T X ρ a (.int i)) (hb : JE T X ρ b (.int j)) : JE T X ρ (.Compare a [.GtE] [b] pos) (.bl (decide (j ≤ i))) := je_cmp0 (p := fun i j => decide (j ≤ i)) (fun _ => op_ge) (nomark _) ha hb
theorem je_eqI (ha : JE T X ρ a (.int i)) (hb : JE T X ρ b (.int j)) : JE T X ρ (.Compare a [.Eq] [b] pos) (.bl (decide (i = j))) := by
  obtain ⟨ta, pa, xa⟩ := ha
  obtain ⟨tb, pb, xb⟩ := hb
  refine ⟨_, fun i => pe_cmpR op_eq (pa i) (pb i) (nomark _), ae_op xa xb fun ps H v u Q _ h1 h2 q => ?_⟩
  rw [rep_int.mp h1, rep_int.mp h2]
  refine ⟨rfl, q _ H (Ext.refl H) (rep_bl.mpr ?_)⟩
  rw [dec_int, Bool.beq_eq_decide_eq]
theorem je_neI (ha : JE T X ρ a (.int i)) (hb : JE T X ρ b (.int j)) : JE T X ρ (.Compare a [.NotEq] [b] pos) (.bl (!decide (i = j))) := by
  obtain ⟨ta, pa, xa⟩ := ha
  obtain ⟨tb, pb, xb⟩ := hb
  refine ⟨_, fun i => pe_cmpR op_ne (pa i) (pb i) (nomark _), ae_op xa xb fun ps H v u Q _ h1 h2 q => ?_⟩
  rw [rep_int.mp h1, rep_int.mp h2]
  refine ⟨rfl, q _ H (Ext.refl H) (rep_bl.mpr ?_)⟩
  rw [dec_int, Bool.beq_eq_decide_eq]
/-- == of texts -/
theorem je_eqS {x y : Str} (ha : JE T X ρ a (.str x)) (hb : JE T X ρ b (.str y)) : JE T X ρ (.Compare a [.Eq] [b] pos) (.bl (decide (x = y))) := by
  obtain ⟨ta, pa, xa⟩ := ha
  obtain ⟨tb, pb, xb⟩ := hb
  refine ⟨_, fun i => pe_cmpR op_eq (pa i) (pb i) (nomark _), ae_op xa xb fun ps H v u Q _ h1 h2 q => ?_⟩
  rw [rep_str.mp h1, rep_str.mp h2]
  refine ⟨rfl, q _ H (Ext.refl H) (rep_bl.mpr ?_)⟩
  rw [dec_str]
  by_cases e : x = y
  · rw [decide_eq_true e]; simp [e]
  · rw [decide_eq_false e]; simp [e]
def isNon : D → Bool
  | .non => true
  | _ => false
theorem rep_isNon {H : Hp} {d : D} {v : V} (h : Rep T H d v) : decide (v = .non) = isNon d := by
  cases d with
  | int _ => rw [rep_int.mp h]; rfl
  | bl _ => rw [rep_bl.mp h]; rfl
  | non => rw [rep_non.mp h]; rfl
  | str _ => rw [rep_str.mp h]; rfl
  | tup _ => obtain ⟨_, _, rfl, _⟩ := rep_tup.mp h; rfl
  | lst _ => obtain ⟨_, _, rfl, _⟩ := rep_lst.mp h; rfl
  | obj _ _ => obtain ⟨_, _, _, rfl, _⟩ := rep_obj.mp h; rfl
theorem je_isN {d : D} {j pos'} (ha : JE T X ρ a d) : JE T X ρ (.Compare a [.Is] [.Constant .none j pos'] pos) (.bl (isNon d)) := by
  obtain ⟨ta, pa, xa⟩ := ha
  exact ⟨_, fun i => pe_cmp (pc_isN (pa i)), fun ps σ H ho hE Q q => xa ps σ H ho hE _ fun v H1 e1 r1 => q _ H1 e1 (rep_bl.mpr (by rw [rep_isNon r1]))⟩
theorem je_notN {d : D} {j pos'} (ha : JE T X ρ a d) : JE T X ρ (.Compare a [.IsNot] [.Constant .none j pos'] pos) (.bl (!isNon d)) := by
  obtain ⟨ta, pa, xa⟩ := ha
  exact ⟨_, fun i => pe_cmp (pc_notN (pa i)), fun ps σ H ho hE Q q => xa ps σ H ho hE _ fun v H1 e1 r1 => q _ H1 e1 (rep_bl.mpr (by rw [rep_isNon r1]))⟩
/-! ### tests -/
theorem jt_val {c : Bool} (h : JE T X ρ a (.bl c)) (he : ∀ i whole, isTrue a (X i).env whole = (do let v ← whole; standAt a.pos; holding [v] (truthy v)) := by intro _ _; rfl) : JT T X ρ a c := by
  obtain ⟨ta, pa, xa⟩ := h
  exact ⟨_, fun i => pt_val (pa i) (he i), fun ps σ H ho hE Q q => xa ps σ H ho hE _ fun v H1 e1 r1 => ⟨c, rep_bl.mp r1, q H1 e1⟩⟩
/-- a comparison as a test -/
theorem jt_cmp {op : CmpOp} {c : Bool} {r : R2} {x y : D} (ho : ∀ i, OpR (X i) (compareOp op) r) (hm : behindInMarks op b = false) (ha : JE T X ρ a x) (hb : JE T X ρ b y)
    (hr : ∀ (ps : Hid) (H : Hp) (v u : V) (Q : VK), HidOk T H ps → Rep T (del H ps) x v → Rep T (del H ps) y u → Q (.bl c) H → r v u H Q) : JT T X ρ (.Compare a [op] [b] pos) c := by
  obtain ⟨ta, pa, xa⟩ := ha
  obtain ⟨tb, pb, xb⟩ := hb
  exact ⟨_, fun i => pt_cmpR (ho i) (pa i) (pb i) hm, fun ps σ H ho hE Q q => xa ps σ H ho hE _ fun v H1 e1 r1 => xb ps σ H1 (ho.mono e1) (hE.ext e1) _ fun u H2 e2 r2 =>
    hr ps H2 v u _ ((ho.mono e1).mono e2) (Rep.ext (e2.del ps) _ _ r1) r2 ⟨c, rfl, q H2 (e1.trans e2)⟩⟩
theorem jt_lt (ha : JE T X ρ a (.int i)) (hb : JE T X ρ b (.int j)) : JT T X ρ (.Compare a [.Lt] [b] pos) (decide (i < j)) := jt_cmp (fun _ => op_lt) (nomark _) ha hb fun ps H v u Q _ h1 h2 q => ⟨i, j, rep_int.mp h1, rep_int.mp h2, q⟩
theorem jt_le (ha : JE T X ρ a (.int i)) (hb : JE T X ρ b (.int j)) : JT T X ρ (.Compare a [.LtE] [b] pos) (decide (i ≤ j)) := jt_cmp (fun _ => op_le) (nomark _) ha hb fun ps H v u Q _ h1 h2 q => ⟨i, j, rep_int.mp h1, rep_int.mp h2, q⟩
theorem jt_gt (ha : JE T X ρ a (.int i)) (hb : JE T X ρ b (.int j)) : JT T X ρ (.Compare a [.Gt] [b] pos) (decide (j < i)) := jt_cmp (fun _ => op_gt) (nomark _) ha hb fun ps H v u Q _ h1 h2 q => ⟨i, j, rep_int.mp h1, rep_int.mp h2, q⟩
theorem jt_ge (ha : JE T X ρ a (.int i)) (hb : JE T X ρ b (.int j)) : JT T X ρ (.Compare a [.GtE] [b] pos) (decide (j ≤ i)) := jt_cmp (fun _ => op_ge) (nomark _) ha hb fun ps H v u Q _ h1 h2 q => ⟨i, j, rep_int.mp h1, rep_int.mp h2, q⟩
theorem jt_eqI (ha : JE T X ρ a (.int i)) (hb : JE T X ρ b (.int j)) : JT T X ρ (.Compare a [.Eq] [b] pos) (decide (i = j)) := jt_cmp (fun _ => op_eq) (nomark _) ha hb fun ps H v u Q _ h1 h2 q => by
  rw [rep_int.mp h1, rep_int.mp h2]
  refine ⟨rfl, ?_⟩
  rw [dec_int, Bool.beq_eq_decide_eq]
  exact q
theorem jt_neI (ha : JE T X ρ a (.int i)) (hb : JE T X ρ b (.int j)) : JT T X ρ (.Compare a [.NotEq] [b] pos) (!decide (i = j)) := jt_cmp (fun _ => op_ne) (nomark _) ha hb fun ps H v u Q _ h1 h2 q => by
  rw [rep_int.mp h1, rep_int.mp h2]
  refine ⟨rfl, ?_⟩
  rw [dec_int, Bool.beq_eq_decide_eq]
  exact q
theorem jt_eqS {x y : Str} (ha : JE T X ρ a (.str x)) (hb : JE T X ρ b (.str y)) : JT T X ρ (.Compare a [.Eq] [b] pos) (decide (x = y)) := jt_cmp (fun _ => op_eq) (nomark _) ha hb fun ps H v u Q _ h1 h2 q => by
  rw [rep_str.mp h1, rep_str.mp h2]
  refine ⟨rfl, ?_⟩
  have e : decide (V.str x = V.str y) = decide (x = y) := by
    by_cases e : x = y
    · rw [decide_eq_true e, e]; simp
    · rw [decide_eq_false e]; simp [e]
  rw [e]
  exact q
theorem jt_isN {d : D} {j pos'} (ha : JE T X ρ a d) : JT T X ρ (.Compare a [.Is] [.Constant .none j pos'] pos) (isNon d) := by
  obtain ⟨ta, pa, xa⟩ := ha
  exact ⟨_, fun i => pt_cmp (pc_isN (pa i)), fun ps σ H ho hE Q q => xa ps σ H ho hE _ fun v H1 e1 r1 => ⟨_, rfl, by rw [rep_isNon r1]; exact q H1 e1⟩⟩
theorem jt_notN {d : D} {j pos'} (ha : JE T X ρ a d) : JT T X ρ (.Compare a [.IsNot] [.Constant .none j pos'] pos) (!isNon d) := by
  obtain ⟨ta, pa, xa⟩ := ha
  exact ⟨_, fun i => pt_cmp (pc_notN (pa i)), fun ps σ H ho hE Q q => xa ps σ H ho hE _ fun v H1 e1 r1 => ⟨_, rfl, by rw [rep_isNon r1]; exact q H1 e1⟩⟩
theorem jt_not {c : Bool} (h : JT T X ρ a c) : JT T X ρ (.UnaryOp .Not a pos) (!c) := by
  obtain ⟨t, p, x⟩ := h
  exact ⟨_, fun i => pt_not (p i), fun ps σ H ho hE Q q => x ps σ H ho hE _ fun H1 e1 => q H1 e1⟩
/-- a chain of and, of or: whatever the whole is -/
def JW (T : Tx) {ι : Type} (X : ι → Cx) (ρ : En) (e : Expr) (b : Bool) : Prop := ∃ tt, (∀ i, PW (X i) e tt) ∧ AT T tt ρ b
theorem jt_W {c : Bool} (h : JW T X ρ a c) : JT T X ρ a c := by
  obtain ⟨t, p, x⟩ := h
  exact ⟨t, fun i => (p i).pt, x⟩
theorem jw_and1 {c : Bool} (h : JT T X ρ a c) : JW T X ρ (.BoolOp .And [a] pos) c := by
  obtain ⟨t, p, x⟩ := h
  exact ⟨t, fun i => pw_and1 (p i), x⟩
theorem jw_or1 {c : Bool} (h : JT T X ρ a c) : JW T X ρ (.BoolOp .Or [a] pos) c := by
  obtain ⟨t, p, x⟩ := h
  exact ⟨t, fun i => pw_or1 (p i), x⟩
theorem at_and {t u : TT} {c d : Bool} (h : AT T t ρ c) (k : c = true → AT T u ρ d) : AT T (tAnd t u) ρ (c && d) := fun ps σ H ho hE Q q => h ps σ H ho hE _ fun H1 e1 => by
  cases c with
  | true =>
    rw [if_pos rfl]
    exact k rfl ps σ H1 (ho.mono e1) (hE.ext e1) Q fun H2 e2 => q H2 (e1.trans e2)
  | false =>
    rw [if_neg Bool.false_ne_true]
    exact q H1 e1
theorem at_or {t u : TT} {c d : Bool} (h : AT T t ρ c) (k : c = false → AT T u ρ d) : AT T (tOr t u) ρ (c || d) := fun ps σ H ho hE Q q => h ps σ H ho hE _ fun H1 e1 => by
  cases c with
  | true =>
    rw [if_pos rfl]
    exact q H1 e1
  | false =>
    rw [if_neg Bool.false_ne_true]
    exact k rfl ps σ H1 (ho.mono e1) (hE.ext e1) Q fun H2 e2 => q H2 (e1.trans e2)
variable {rest : List Expr} {c d : Bool}
/-- the second one: asked only where the first holds -/
theorem jw_and (h : JT T X ρ a c) (k : JW T X ρ (.BoolOp .And (b :: rest) pos) d) : JW T X ρ (.BoolOp .And (a :: b :: rest) pos) (c && d) := by
  obtain ⟨t, p, x⟩ := h
  obtain ⟨u, r, y⟩ := k
  exact ⟨_, fun i => pw_and (p i) (r i), at_and x fun _ => y⟩
theorem jw_or (h : JT T X ρ a c) (k : JW T X ρ (.BoolOp .Or (b :: rest) pos) d) : JW T X ρ (.BoolOp .Or (a :: b :: rest) pos) (c || d) := by
  obtain ⟨t, p, x⟩ := h
  obtain ⟨u, r, y⟩ := k
  exact ⟨_, fun i => pw_or (p i) (r i), at_or x fun _ => y⟩
/-- a syntax that may stand, whatever it does where it is not come to -/
def PWx (X : ι → Cx) (e : Expr) : Prop := ∃ tt, ∀ i, PW (X i) e tt
/-- where the first decides -/
theorem jw_andF (h : JT T X ρ a false) (k : PWx X (.BoolOp .And (b :: rest) pos)) : JW T X ρ (.BoolOp .And (a :: b :: rest) pos) false := by
  obtain ⟨t, p, x⟩ := h
  obtain ⟨u, r⟩ := k
  exact ⟨_, fun i => pw_and (p i) (r i), at_and (d := true) x fun z => nomatch z⟩
theorem jw_orT (h : JT T X ρ a true) (k : PWx X (.BoolOp .Or (b :: rest) pos)) : JW T X ρ (.BoolOp .Or (a :: b :: rest) pos) true := by
  obtain ⟨t, p, x⟩ := h
  obtain ⟨u, r⟩ := k
  exact ⟨_, fun i => pw_or (p i) (r i), at_or (d := true) x fun z => nomatch z⟩
/-! ### the same as values -/
theorem je_one {op} {d : D} (h : JE T X ρ a d) : JE T X ρ (.BoolOp op [a] pos) d := by
  obtain ⟨t, p, x⟩ := h
  exact ⟨t, fun i => pe_one (p i), x⟩
theorem je_and (h : JE T X ρ a (.bl c)) (k : JE T X ρ (.BoolOp .And (b :: rest) pos) (.bl d)) : JE T X ρ (.BoolOp .And (a :: b :: rest) pos) (.bl (c && d)) := by
  obtain ⟨t, p, x⟩ := h
  obtain ⟨u, r, y⟩ := k
  refine ⟨_, fun i => pe_and (p i) (r i), fun ps σ H ho hE Q q => x ps σ H ho hE _ fun v H1 e1 r1 => ⟨c, rep_bl.mp r1, ?_⟩⟩
  cases c with
  | true =>
    rw [if_pos rfl]
    exact y ps σ H1 (ho.mono e1) (hE.ext e1) Q fun v H2 e2 r2 => q v H2 (e1.trans e2) r2
  | false =>
    rw [if_neg Bool.false_ne_true]
    exact q _ H1 e1 (rep_bl.mpr rfl)
theorem je_or (h : JE T X ρ a (.bl c)) (k : JE T X ρ (.BoolOp .Or (b :: rest) pos) (.bl d)) : JE T X ρ (.BoolOp .Or (a :: b :: rest) pos) (.bl (c || d)) := by
  obtain ⟨t, p, x⟩ := h
  obtain ⟨u, r, y⟩ := k
  refine ⟨_, fun i => pe_or (p i) (r i), fun ps σ H ho hE Q q => x ps σ H ho hE _ fun v H1 e1 r1 => ⟨c, rep_bl.mp r1, ?_⟩⟩
  cases c with
  | true =>
    rw [if_pos rfl]
    exact q _ H1 e1 (rep_bl.mpr rfl)
  | false =>
    rw [if_neg Bool.false_ne_true]
    exact y ps σ H1 (ho.mono e1) (hE.ext e1) Q fun v H2 e2 r2 => q v H2 (e1.trans e2) r2
def PEx (X : ι → Cx) (e : Expr) : Prop := ∃ te, ∀ i, PE (X i) e te
theorem je_andF (h : JE T X ρ a (.bl false)) (k : PEx X (.BoolOp .And (b :: rest) pos)) : JE T X ρ (.BoolOp .And (a :: b :: rest) pos) (.bl false) := by
  obtain ⟨t, p, x⟩ := h
  obtain ⟨u, r⟩ := k
  exact ⟨_, fun i => pe_and (p i) (r i), fun ps σ H ho hE Q q => x ps σ H ho hE _ fun v H1 e1 r1 => ⟨false, rep_bl.mp r1, by
    rw [if_neg Bool.false_ne_true]
    exact q _ H1 e1 (rep_bl.mpr rfl)⟩⟩
theorem je_not (h : JE T X ρ a (.bl c)) : JE T X ρ (.UnaryOp .Not a pos) (.bl (!c)) := by
  obtain ⟨t, p, x⟩ := h
  exact ⟨_, fun i => pe_not (p i), fun ps σ H ho hE Q q => x ps σ H ho hE _ fun v H1 e1 r1 => ⟨c, rep_bl.mp r1, q _ H1 e1 (rep_bl.mpr rfl)⟩⟩
/-- x if t else y -/
theorem je_if {t : Expr} {x y : D} (h : JT T X ρ t c) (h1 : JE T X ρ a x) (h2 : JE T X ρ b y) : JE T X ρ (.IfExp t a b pos) (cond c x y) := by
  obtain ⟨tt, p, z⟩ := h
  obtain ⟨ta, pa, xa⟩ := h1
  obtain ⟨tb, pb, xb⟩ := h2
  refine ⟨_, fun i => pe_ifExp (p i) (pa i) (pb i), fun ps σ H ho hE Q q => z ps σ H ho hE _ fun H1 e1 => ?_⟩
  cases c with
  | true =>
    rw [if_pos rfl]
    exact xa ps σ H1 (ho.mono e1) (hE.ext e1) Q fun v H2 e2 r2 => q v H2 (e1.trans e2) r2
  | false =>
    rw [if_neg Bool.false_ne_true]
    exact xb ps σ H1 (ho.mono e1) (hE.ext e1) Q fun v H2 e2 r2 => q v H2 (e1.trans e2) r2
theorem je_ifT {t : Expr} {x : D} (h : JT T X ρ t true) (h1 : JE T X ρ a x) (h2 : PEx X b) : JE T X ρ (.IfExp t a b pos) x := by
  obtain ⟨tt, p, z⟩ := h
  obtain ⟨ta, pa, xa⟩ := h1
  obtain ⟨tb, pb⟩ := h2
  refine ⟨_, fun i => pe_ifExp (p i) (pa i) (pb i), fun ps σ H ho hE Q q => z ps σ H ho hE _ fun H1 e1 => ?_⟩
  rw [if_pos rfl]
  exact xa ps σ H1 (ho.mono e1) (hE.ext e1) Q fun v H2 e2 r2 => q v H2 (e1.trans e2) r2
theorem je_ifF {t : Expr} {x : D} (h : JT T X ρ t false) (h1 : PEx X a) (h2 : JE T X ρ b x) : JE T X ρ (.IfExp t a b pos) x := by
  obtain ⟨tt, p, z⟩ := h
  obtain ⟨ta, pa⟩ := h1
  obtain ⟨tb, pb, xb⟩ := h2
  refine ⟨_, fun i => pe_ifExp (p i) (pa i) (pb i), fun ps σ H ho hE Q q => z ps σ H ho hE _ fun H1 e1 => ?_⟩
  rw [if_neg Bool.false_ne_true]
  exact xb ps σ H1 (ho.mono e1) (hE.ext e1) Q fun v H2 e2 r2 => q v H2 (e1.trans e2) r2
end
end Fr
namespace Fr
open PySem PySem.Spec PyProof.Rows L2
section
variable {T : Tx} {ι : Type} {X : ι → Cx} {ρ : En} {k : Nat}
/-! ### canonical readings -/
def canE (X : ι → Cx) (e : Expr) : TE := fun σ H Q => ∀ i pins s, Inv (X i) pins σ H s → wpAny (model (X i).prog (X i).w) (X i).A (eval e (X i).env) (EP (X i) pins σ Q) (X i).xe s
theorem can_pe (e : Expr) (i : ι) : PE (X i) e (canE X e) := ⟨fun pins s σ H Q I h => h i pins s I⟩
theorem JE.can {e : Expr} {d : D} (h : JE T X ρ e d) : AE T (canE X e) ρ d := fun ps σ H ho hE Q q i pins s I => by
  obtain ⟨te, p, x⟩ := h
  exact (p i).run pins s σ H Q I (x ps σ H ho hE Q q)
theorem pex (e : Expr) : PEx X e := ⟨canE X e, can_pe e⟩
def canW (X : ι → Cx) (e : Expr) : TT := fun σ H Q => ∀ i whole pins s, Inv (X i) pins σ H s → wpAny (model (X i).prog (X i).w) (X i).A (isTrue e (X i).env whole) (TP (X i) pins σ Q) (X i).xe s
theorem pwx (e : Expr) : PWx X e := ⟨canW X e, fun i => ⟨fun whole pins s σ H Q I h => h i whole pins s I⟩⟩
/-! ### arguments, displays -/
theorem ja_nil : JA T X ρ [] [] := ⟨tNil, fun _ => pa_nil, fun ps σ H _ _ Q q => q [] H (Ext.refl H) (reps_nil.mpr rfl)⟩
theorem ja_cons {e : Expr} {es : List Expr} {d : D} {l : List D} (h : JE T X ρ e d) (t : JA T X ρ es l) (hs : ∀ i, starEach (e :: es) (X i).env = (false, eval e (X i).env) :: starEach es (X i).env := by intro _; rfl) : JA T X ρ (e :: es) (d :: l) := by
  obtain ⟨te, p, x⟩ := h
  obtain ⟨ta, r, y⟩ := t
  exact ⟨_, fun i => pa_cons (p i) (r i) (hs i), fun ps σ H ho hE Q q => x ps σ H ho hE _ fun v H1 e1 r1 => y ps σ H1 (ho.mono e1) (hE.ext e1) _ fun vs H2 e2 r2 =>
    q _ H2 (e1.trans e2) (reps_cons.mpr ⟨v, vs, rfl, Rep.ext (e2.del ps) _ _ r1, r2⟩)⟩
theorem rep_newT {ps : Hid} {H : Hp} {p : Addr} {l : List D} {vs : List V} (ho : HidOk T H ps) (hp : H p = none) (r : Reps T (del H ps) l vs) : Rep T (del (upd H p (.tup vs)) ps) (.tup l) (.ref p) :=
  rep_tup.mpr ⟨p, vs, rfl, SqT.of (by rw [del_of (ho.out hp), upd_same]), Reps.ext ((Ext.new hp).del ps) _ _ r⟩
theorem rep_newL {ps : Hid} {H : Hp} {p : Addr} {l : List D} {vs : List V} (ho : HidOk T H ps) (hp : H p = none) (r : Reps T (del H ps) l vs) : Rep T (del (upd H p (.lst vs)) ps) (.lst l) (.ref p) :=
  rep_lst.mpr ⟨p, vs, rfl, SqL.of (by rw [del_of (ho.out hp), upd_same]), Reps.ext ((Ext.new hp).del ps) _ _ r⟩
theorem big_ok {n : Nat} (h : n ≤ 1000000) : n ≤ sizeLine := Nat.le_trans h (by decide)
theorem big_lt {n : Nat} (h : n ≤ 1000000) : n < sizeLine := Nat.lt_of_le_of_lt h (by decide)
theorem je_tup {es : List Expr} {l : List D} {x1 pos} (h : JA T X ρ es l) (hl : l.length ≤ 1000000 := by first | exact Nat.le_of_ble_eq_true rfl | decide) : JE T X ρ (.Tuple es x1 pos) (.tup l) := by
  obtain ⟨ta, p, x⟩ := h
  exact ⟨_, fun i => pe_tup (p i), fun ps σ H ho hE Q q => x ps σ H ho hE _ fun vs H1 e1 r1 => ⟨by rw [reps_len r1]; exact big_ok hl, fun p hp =>
    q _ _ (e1.trans (Ext.new hp)) (rep_newT (ho.mono e1) hp r1)⟩⟩
theorem je_lst {es : List Expr} {l : List D} {pos} (h : JA T X ρ es l) (hl : l.length ≤ 1000000 := by first | exact Nat.le_of_ble_eq_true rfl | decide) : JE T X ρ (.List es pos) (.lst l) := by
  obtain ⟨ta, p, x⟩ := h
  exact ⟨_, fun i => pe_lst (p i), fun ps σ H ho hE Q q => x ps σ H ho hE _ fun vs H1 e1 r1 => ⟨by rw [reps_len r1]; exact big_ok hl, fun p hp =>
    q _ _ (e1.trans (Ext.new hp)) (rep_newL (ho.mono e1) hp r1)⟩⟩
/-! ### subscripts -/
theorem IxR.cast {X : Cx} {K K' : PySem.W.Frag} {f : PySem.W.Frag → R2} (e : K = K') (h : IxR X (f K)) : IxR X (f K') := e ▸ h
theorem je_ix {a b : Expr} {pos : Pos} {l : List D} {i : Int} {d : D} (hX : Fam T k X) (ha : JE T X ρ a (.tup l)) (hb : JE T X ρ b (.int i)) (n : Nat) (hi : i = (n : Int)) (hd : l[n]? = some d) (hs : PlainIx b := by exact fun _ _ => rfl) : JE T X ρ (.Subscript a b pos) d := by
  obtain ⟨ta, pa, xa⟩ := ha
  obtain ⟨tb, pb, xb⟩ := hb
  refine ⟨tOp (rIxT T.K) ta tb, fun i => pe_ix (IxR.cast (f := rIxT) (hX.K i) ix_tup) (pa i) (pb i) hs, ae_op xa xb fun ps H v u Q _ h1 h2 q => ?_⟩
  obtain ⟨p, vs, rfl, s, r⟩ := rep_tup.mp h1
  obtain ⟨w, e1, r1⟩ := reps_get r hd
  exact ⟨p, vs, i, w, rfl, rep_int.mp h2, sqT_ext ext_del s, by rw [hi]; exact atI_nat e1, q w H (Ext.refl H) r1⟩
theorem je_ixL {a b : Expr} {pos : Pos} {l : List D} {i : Int} {d : D} (hX : Fam T k X) (ha : JE T X ρ a (.lst l)) (hb : JE T X ρ b (.int i)) (n : Nat) (hi : i = (n : Int)) (hd : l[n]? = some d) (hs : PlainIx b := by exact fun _ _ => rfl) : JE T X ρ (.Subscript a b pos) d := by
  obtain ⟨ta, pa, xa⟩ := ha
  obtain ⟨tb, pb, xb⟩ := hb
  refine ⟨tOp (rIxL T.K) ta tb, fun i => pe_ix (IxR.cast (f := rIxL) (hX.K i) ix_list) (pa i) (pb i) hs, ae_op xa xb fun ps H v u Q _ h1 h2 q => ?_⟩
  obtain ⟨p, vs, rfl, s, r⟩ := rep_lst.mp h1
  obtain ⟨w, e1, r1⟩ := reps_get r hd
  exact ⟨p, vs, i, w, rfl, rep_int.mp h2, sqL_ext ext_del s, by rw [hi]; exact atI_nat e1, q w H (Ext.refl H) r1⟩
/-! ### calls of built-ins, by values -/
theorem je_callB {x id : Str} {sid : String} {p pos : Pos} {e : Expr} {es : List Expr} {r : List V → Hp → VK → Prop} {l : List D} {d : D} (hX : Fam T k X) (hm : T.mg x = none) (hc : ∀ i, CallR (X i) (.builtin sid) r) (hv : bootBuiltins x = some (.builtin sid)) (ha : JA T X ρ (e :: es) l)
    (hr : ∀ (ps : Hid) (H : Hp) (vs : List V) (Q : VK), HidOk T H ps → Reps T (del H ps) l vs → (∀ v H', Ext H H' → Rep T (del H' ps) d v → Q v H') → r vs H Q)
    (hg : ∀ i, Gl (X i) x := by intro _; rfl) (hn : x ≠ "__name__" := by decide) (hdb : (x == ("__debug__" : Str)) = false := by decide)
    (he : ∀ i, starEach (e :: es) (X i).env = (false, eval e (X i).env) :: starEach es (X i).env := by intro _; rfl) (hpl : ∀ i, (backTo pos (starEach es (X i).env)).any (·.1) = false := by intro _; rfl) : JE T X ρ (.Call (.Name x p) (e :: es) [] pos) d := by
  obtain ⟨ta, pa, xa⟩ := ha
  exact ⟨_, fun i => pe_callB (hc i) (hg i) (by rw [hX.mg i]; exact hm) hv (pa i) hn hdb (he i) (hpl i), fun ps σ H ho hE Q q => xa ps σ H ho hE _ fun vs H1 e1 r1 =>
    hr ps H1 vs Q (ho.mono e1) r1 fun v H2 e2 r2 => q v H2 (e1.trans e2) r2⟩
theorem je_callTy {x : Str} {sid : String} {p pos : Pos} {e : Expr} {es : List Expr} {r : List V → Hp → VK → Prop} {l : List D} {d : D} (hX : Fam T k X) (hm : T.mg x = none) (hc : ∀ i, CallR (X i) (.type sid) r) (hv : bootBuiltins x = some (.type sid)) (ha : JA T X ρ (e :: es) l)
    (hr : ∀ (ps : Hid) (H : Hp) (vs : List V) (Q : VK), HidOk T H ps → Reps T (del H ps) l vs → (∀ v H', Ext H H' → Rep T (del H' ps) d v → Q v H') → r vs H Q)
    (hg : ∀ i, Gl (X i) x := by intro _; rfl) (hn : x ≠ "__name__" := by decide) (hdb : (x == ("__debug__" : Str)) = false := by decide)
    (he : ∀ i, starEach (e :: es) (X i).env = (false, eval e (X i).env) :: starEach es (X i).env := by intro _; rfl) (hpl : ∀ i, (backTo pos (starEach es (X i).env)).any (·.1) = false := by intro _; rfl) : JE T X ρ (.Call (.Name x p) (e :: es) [] pos) d := by
  obtain ⟨ta, pa, xa⟩ := ha
  exact ⟨_, fun i => pe_callTy (hc i) (hg i) (by rw [hX.mg i]; exact hm) hv (pa i) hn hdb (he i) (hpl i), fun ps σ H ho hE Q q => xa ps σ H ho hE _ fun vs H1 e1 r1 =>
    hr ps H1 vs Q (ho.mono e1) r1 fun v H2 e2 r2 => q v H2 (e1.trans e2) r2⟩
theorem reps_one {H : Hp} {d : D} {vs : List V} (h : Reps T H [d] vs) : ∃ v, vs = [v] ∧ Rep T H d v := by
  obtain ⟨v, r, rfl, q, t⟩ := reps_cons.mp h
  rw [reps_nil.mp t]
  exact ⟨v, rfl, q⟩
theorem reps_two {H : Hp} {d e : D} {vs : List V} (h : Reps T H [d, e] vs) : ∃ v w, vs = [v, w] ∧ Rep T H d v ∧ Rep T H e w := by
  obtain ⟨v, r, rfl, q, t⟩ := reps_cons.mp h
  obtain ⟨w, rfl, q2⟩ := reps_one t
  exact ⟨v, w, rfl, q, q2⟩
theorem je_abs {e : Expr} {p pos : Pos} {i : Int} (hX : Fam T k X) (hm : T.mg "abs" = none) (ha : JE T X ρ e (.int i)) (hg : ∀ i, Gl (X i) "abs" := by intro _; rfl) (he : ∀ i, starEach [e] (X i).env = (false, eval e (X i).env) :: starEach [] (X i).env := by intro _; rfl) : JE T X ρ (.Call (.Name "abs" p) [e] [] pos) (.int (if i < 0 then -i else i)) :=
  je_callB (id := "abs") hX hm (fun _ => call_abs) (by decide +kernel) (ja_cons ha ja_nil he) (fun ps H vs Q _ h q => by
    obtain ⟨v, rfl, h'⟩ := reps_one h
    exact ⟨i, by rw [rep_int.mp h'], q _ H (Ext.refl H) (rep_int.mpr rfl)⟩) hg (he := he)
theorem je_lenT {e : Expr} {p pos : Pos} {l : List D} (hX : Fam T k X) (hm : T.mg "len" = none) (ha : JE T X ρ e (.tup l)) (hg : ∀ i, Gl (X i) "len" := by intro _; rfl) (he : ∀ i, starEach [e] (X i).env = (false, eval e (X i).env) :: starEach [] (X i).env := by intro _; rfl) : JE T X ρ (.Call (.Name "len" p) [e] [] pos) (.int (l.length : Int)) :=
  je_callB (id := "len") (r := fun xs H Q => ∃ p ys, xs = [.ref p] ∧ (SqL T.K H p ys ∨ SqT T.K H p ys) ∧ Q (.int ys.length) H) hX hm (fun i => by rw [← hX.K i]; exact call_len_seq) PySem.boot_len (ja_cons ha ja_nil he) (fun ps H vs Q _ h q => by
    obtain ⟨v, rfl, h'⟩ := reps_one h
    obtain ⟨a, ws, rfl, s, r⟩ := rep_tup.mp h'
    exact ⟨a, ws, rfl, .inr (sqT_ext ext_del s), q _ H (Ext.refl H) (rep_int.mpr (by rw [reps_len r]))⟩) hg (he := he)
theorem je_lenL {e : Expr} {p pos : Pos} {l : List D} (hX : Fam T k X) (hm : T.mg "len" = none) (ha : JE T X ρ e (.lst l)) (hg : ∀ i, Gl (X i) "len" := by intro _; rfl) (he : ∀ i, starEach [e] (X i).env = (false, eval e (X i).env) :: starEach [] (X i).env := by intro _; rfl) : JE T X ρ (.Call (.Name "len" p) [e] [] pos) (.int (l.length : Int)) :=
  je_callB (id := "len") (r := fun xs H Q => ∃ p ys, xs = [.ref p] ∧ (SqL T.K H p ys ∨ SqT T.K H p ys) ∧ Q (.int ys.length) H) hX hm (fun i => by rw [← hX.K i]; exact call_len_seq) PySem.boot_len (ja_cons ha ja_nil he) (fun ps H vs Q _ h q => by
    obtain ⟨v, rfl, h'⟩ := reps_one h
    obtain ⟨a, ws, rfl, s, r⟩ := rep_lst.mp h'
    exact ⟨a, ws, rfl, .inl (sqL_ext ext_del s), q _ H (Ext.refl H) (rep_int.mpr (by rw [reps_len r]))⟩) hg (he := he)
theorem reps_bls {H : Hp} : ∀ {l : List Bool} {vs : List V}, Reps T H (l.map .bl) vs → vs = l.map .bl
  | [], vs, h => reps_nil.mp h
  | x :: xs, vs, h => by
    obtain ⟨y, r, rfl, q, t⟩ := reps_cons.mp h
    rw [rep_bl.mp q, reps_bls t]
    rfl
theorem je_all {e : Expr} {p pos : Pos} {l : List Bool} (hX : Fam T k X) (hm : T.mg "all" = none) (ha : JE T X ρ e (.lst (l.map .bl))) (hg : ∀ i, Gl (X i) "all" := by intro _; rfl) (he : ∀ i, starEach [e] (X i).env = (false, eval e (X i).env) :: starEach [] (X i).env := by intro _; rfl) : JE T X ρ (.Call (.Name "all" p) [e] [] pos) (.bl (l.all id)) :=
  je_callB (id := "all") (r := rAll T.K) hX hm (fun i => by rw [← hX.K i]; exact cr_all (hX.calm i)) (by decide +kernel) (ja_cons ha ja_nil he) (fun ps H vs Q _ h q => by
    obtain ⟨v, rfl, h'⟩ := reps_one h
    obtain ⟨a, ws, rfl, s, r⟩ := rep_lst.mp h'
    exact ⟨a, l, rfl, by rw [← reps_bls r]; exact sqL_ext ext_del s, q _ H (Ext.refl H) (rep_bl.mpr rfl)⟩) hg (he := he)
theorem je_any {e : Expr} {p pos : Pos} {l : List Bool} (hX : Fam T k X) (hm : T.mg "any" = none) (ha : JE T X ρ e (.lst (l.map .bl))) (hg : ∀ i, Gl (X i) "any" := by intro _; rfl) (he : ∀ i, starEach [e] (X i).env = (false, eval e (X i).env) :: starEach [] (X i).env := by intro _; rfl) : JE T X ρ (.Call (.Name "any" p) [e] [] pos) (.bl (l.any id)) :=
  je_callB (id := "any") (r := rAny T.K) hX hm (fun i => by rw [← hX.K i]; exact cr_any (hX.calm i)) (by decide +kernel) (ja_cons ha ja_nil he) (fun ps H vs Q _ h q => by
    obtain ⟨v, rfl, h'⟩ := reps_one h
    obtain ⟨a, ws, rfl, s, r⟩ := rep_lst.mp h'
    exact ⟨a, l, rfl, by rw [← reps_bls r]; exact sqL_ext ext_del s, q _ H (Ext.refl H) (rep_bl.mpr rfl)⟩) hg (he := he)
/-- tuple(a list) -/
theorem je_tupleL {e : Expr} {p pos : Pos} {l : List D} (hX : Fam T k X) (hm : T.mg "tuple" = none) (ha : JE T X ρ e (.lst l)) (hg : ∀ i, Gl (X i) "tuple" := by intro _; rfl) (he : ∀ i, starEach [e] (X i).env = (false, eval e (X i).env) :: starEach [] (X i).env := by intro _; rfl) : JE T X ρ (.Call (.Name "tuple" p) [e] [] pos) (.tup l) :=
  je_callTy (r := fun xs H Q => ∃ p ys, xs = [.ref p] ∧ ((SqL T.K H p ys ∧ ∀ l, H l = none → Q (.ref l) (upd H l (.tup ys))) ∨ (SqT T.K H p ys ∧ Q (.ref p) H))) hX hm (fun i => by rw [← hX.K i]; exact call_tuple_of) (by decide +kernel) (ja_cons ha ja_nil he) (fun ps H vs Q ho h q => by
    obtain ⟨v, rfl, h'⟩ := reps_one h
    obtain ⟨a, ws, rfl, s, r⟩ := rep_lst.mp h'
    exact ⟨a, ws, rfl, .inl ⟨sqL_ext ext_del s, fun p hp => q _ _ (Ext.new hp) (rep_newT ho hp r)⟩⟩) hg (he := he)
/-- tuple(a tuple) -/
theorem je_tupleT {e : Expr} {p pos : Pos} {l : List D} (hX : Fam T k X) (hm : T.mg "tuple" = none) (ha : JE T X ρ e (.tup l)) (hg : ∀ i, Gl (X i) "tuple" := by intro _; rfl) (he : ∀ i, starEach [e] (X i).env = (false, eval e (X i).env) :: starEach [] (X i).env := by intro _; rfl) : JE T X ρ (.Call (.Name "tuple" p) [e] [] pos) (.tup l) :=
  je_callTy (r := fun xs H Q => ∃ p ys, xs = [.ref p] ∧ ((SqL T.K H p ys ∧ ∀ l, H l = none → Q (.ref l) (upd H l (.tup ys))) ∨ (SqT T.K H p ys ∧ Q (.ref p) H))) hX hm (fun i => by rw [← hX.K i]; exact call_tuple_of) (by decide +kernel) (ja_cons ha ja_nil he) (fun ps H vs Q ho h q => by
    obtain ⟨v, rfl, h'⟩ := reps_one h
    obtain ⟨a, ws, rfl, s, r⟩ := rep_tup.mp h'
    exact ⟨a, ws, rfl, .inr ⟨sqT_ext ext_del s, q _ _ (Ext.refl H) h'⟩⟩) hg (he := he)
/-- int(an int) -/
theorem je_intI {e : Expr} {p pos : Pos} {i : Int} (hX : Fam T k X) (hm : T.mg "int" = none) (ha : JE T X ρ e (.int i)) (hg : ∀ i, Gl (X i) "int" := by intro _; rfl) (he : ∀ i, starEach [e] (X i).env = (false, eval e (X i).env) :: starEach [] (X i).env := by intro _; rfl) : JE T X ρ (.Call (.Name "int" p) [e] [] pos) (.int i) :=
  je_callTy hX hm (fun _ => call_int1) (by decide +kernel) (ja_cons ha ja_nil he) (fun ps H vs Q ho h q => by
    obtain ⟨v, rfl, h'⟩ := reps_one h
    exact .inl ⟨i, by rw [rep_int.mp h'], q _ H (Ext.refl H) (rep_int.mpr rfl)⟩) hg (he := he)
theorem je_intB {e : Expr} {p pos : Pos} {c : Bool} (hX : Fam T k X) (hm : T.mg "int" = none) (ha : JE T X ρ e (.bl c)) (hg : ∀ i, Gl (X i) "int" := by intro _; rfl) (he : ∀ i, starEach [e] (X i).env = (false, eval e (X i).env) :: starEach [] (X i).env := by intro _; rfl) : JE T X ρ (.Call (.Name "int" p) [e] [] pos) (.int (if c then 1 else 0)) :=
  je_callTy hX hm (fun _ => call_int1) (by decide +kernel) (ja_cons ha ja_nil he) (fun ps H vs Q ho h q => by
    obtain ⟨v, rfl, h'⟩ := reps_one h
    exact .inr ⟨c, by rw [rep_bl.mp h'], q _ H (Ext.refl H) (rep_int.mpr rfl)⟩) hg (he := he)
/-! ### own defs -/
/-- a promise of a def that changes nothing: with the arguments ds it hands back d, if R ds d -/
def SpP (T : Tx) (R : List D → D → Prop) : Sp := fun vs H Q _ => ∃ ps ds d, HidOk T H ps ∧ Reps T (del H ps) ds vs ∧ R ds d ∧ ∀ v H', Ext H H' → Rep T (del H' ps) d v → Q v H'
structure PFn (T : Tx) (x : Str) (k : Nat) (R : List D → D → Prop) : Prop where
  ex : ∃ f fd ps, FnOk T.P T.w T.K T.mg T.base CX0 k f fd ps (SpP T R) ∧ T.mg x = some (.ref f) ∧ PySem.W.keepIn T.K (.ref f) = true ∧ Binds T.K fd ps []
theorem FnOk.cast {X : Cx} {CX : CXT} {k : Nat} {f : Addr} {fd : FuncData} {ps : List Str} {sp : Sp} {ι : Type} {Y : ι → Cx} {j : Nat} (hX : Fam T j Y) (i : ι) (F : FnOk T.P T.w T.K T.mg T.base CX k f fd ps sp) : FnOk (Y i).prog (Y i).w (Y i).K (Y i).mg (Y i).base CX k f fd ps sp := by
  rw [hX.P i, hX.w i, hX.K i, hX.mg i, hX.base i]
  exact F
theorem je_call {x : Str} {R : List D → D → Prop} {j : Nat} {p pos : Pos} {e : Expr} {es : List Expr} {l : List D} {d : D} (hX : Fam T k X) (F : PFn T x j R) (ha : JA T X ρ (e :: es) l) (hR : R l d) (hj : j ≤ k := by decide) (hg : ∀ i, Gl (X i) x := by intro _; rfl)
    (hdb : (x == ("__debug__" : Str)) = false := by decide) (he : ∀ i, starEach (e :: es) (X i).env = (false, eval e (X i).env) :: starEach es (X i).env := by intro _; rfl) (hpl : ∀ i, (backTo pos (starEach es (X i).env)).any (·.1) = false := by intro _; rfl) :
    JE T X ρ (.Call (.Name x p) (e :: es) [] pos) d := by
  obtain ⟨ta, pa, xa⟩ := ha
  obtain ⟨f, fd, ps, G, hm, hk, hb⟩ := F.ex
  refine ⟨tCall (SpP T R) [] E0 ta, fun i => pe_call (FnOk.cast (X := X i) hX i G) ((hX.room i).mono hj) (hg i) (by rw [hX.mg i]; exact hm) (by rw [hX.K i]; exact hk) (by rw [hX.K i]; exact hb) .nil pass0 (pa i) hdb (he i) (hpl i), fun ps σ H ho hE Q q => xa ps σ H ho hE _ fun vs H1 e1 r1 => ?_⟩
  rw [List.append_nil]
  exact ⟨ps, l, d, ho.mono e1, r1, hR, fun v H2 e2 r2 => q v H2 (e1.trans e2) r2⟩
end
/-! ### statements -/
abbrev noM : Hid := fun _ => False
structure Pst where
  nx : En → Prop
  rt : Sl → En → Prop
  bk : En → Prop := fun _ => False
  ct : En → Prop := fun _ => False
/-- what is handed back; a new list: new since H -/
def RetR (T : Tx) (ps : Hid) (H H' : Hp) : Sl → V → Prop
  | .new l, v => ∃ L vs, v = .ref L ∧ H L = none ∧ H' L = some (.lst vs) ∧ Reps T (del H' fun a => ps a ∨ a = L) l vs
  | .d d, v => Rep T (del H' ps) d v
  | .ret L d, v => Rep T (del H' fun a => ps a ∧ a ≠ L) d v
  | x, v => RelS T H' ps (some x) (some v)
theorem RetR.back {T : Tx} {m ps : Hid} {H H1 H' : Hp} (e : ExtM m H H1) : ∀ {x : Sl} {v : V}, RetR T ps H1 H' x v → RetR T ps H H' x v
  | .new _, _, ⟨L, vs, a, b, c, d⟩ => ⟨L, vs, a, e.free b, c, d⟩
  | .d _, _, h => h
  | .ret _ _, _, h => h
  | .raw _, _, h => h
  | .cl _ _, _, h => h
  | .cw _ _ _ _, _, h => h
structure Imp (T : Tx) (m ps : Hid) (H : Hp) (Φ : Pst) (D' : Ends) : Prop where
  nx : ∀ σ' H' ρ', ExtM m H H' → EnvR T H' ps ρ' σ' → Φ.nx ρ' → D'.nx σ' H'
  rt : ∀ v H' x σ' ρ', ExtM m H H' → EnvR T H' ps ρ' σ' → RetR T ps H H' x v → Φ.rt x ρ' → D'.rt v H'
  bk : ∀ σ' H' ρ', ExtM m H H' → EnvR T H' ps ρ' σ' → Φ.bk ρ' → D'.bk σ' H'
  ct : ∀ σ' H' ρ', ExtM m H H' → EnvR T H' ps ρ' σ' → Φ.ct ρ' → D'.ct σ' H'
theorem Imp.ext {T : Tx} {m ps : Hid} {H H1 : Hp} {Φ : Pst} {D' : Ends} (h : Imp T m ps H Φ D') (e : ExtM m H H1) : Imp T m ps H1 Φ D' :=
  ⟨fun σ H' ρ e' r q => h.nx σ H' ρ (e.trans e') r q, fun v H' x σ ρ e' r w q => h.rt v H' x σ ρ (e.trans e') r (w.back e) q, fun σ H' ρ e' r q => h.bk σ H' ρ (e.trans e') r q, fun σ H' ρ e' r q => h.ct σ H' ρ (e.trans e') r q⟩
def AS (T : Tx) (m : Hid) (ts : TS) (ρ : En) (Φ : Pst) : Prop := ∀ (ps : Hid) (σ : L2.St) (H : Hp) (D' : Ends), HM T m H ps → EnvR T H ps ρ σ → Imp T m ps H Φ D' → ts D' σ H
def canS {ι : Type} (X : ι → Cx) (st : Stmt) : TS := fun D' σ H => ∀ i pins s, Inv (X i) pins σ H s → wpAny (model (X i).prog (X i).w) (X i).A (exec st (X i).env) (SP (X i) pins D') (X i).xe s
def canSs {ι : Type} (X : ι → Cx) (st : List Stmt) : TS := fun D' σ H => ∀ i pins s, Inv (X i) pins σ H s → wpAny (model (X i).prog (X i).w) (X i).A (execs st (X i).env) (SP (X i) pins D') (X i).xe s
def JS (T : Tx) {ι : Type} (X : ι → Cx) (m : Hid) (ρ : En) (st : Stmt) (Φ : Pst) : Prop := AS T m (canS X st) ρ Φ
def JSs (T : Tx) {ι : Type} (X : ι → Cx) (m : Hid) (ρ : En) (st : List Stmt) (Φ : Pst) : Prop := AS T m (canSs X st) ρ Φ
section
variable {T : Tx} {ι : Type} {X : ι → Cx} {m : Hid} {ρ : En} {k : Nat} {st : Stmt} {sts rest : List Stmt} {Φ : Pst}
theorem can_ps (st : Stmt) (i : ι) : PS (X i) st (canS X st) := ⟨fun pins s σ H D' I h => h i pins s I⟩
theorem can_pss (st : List Stmt) (i : ι) : PSs (X i) st (canSs X st) := ⟨fun pins s σ H D' I h => h i pins s I⟩
theorem JS.of {ts : TS} (p : ∀ i, PS (X i) st ts) (h : AS T m ts ρ Φ) : JS T X m ρ st Φ := fun ps σ H D' ho hE im i pins s I => (p i).run pins s σ H D' I (h ps σ H D' ho hE im)
theorem JSs.of {ts : TS} (p : ∀ i, PSs (X i) sts ts) (h : AS T m ts ρ Φ) : JSs T X m ρ sts Φ := fun ps σ H D' ho hE im i pins s I => (p i).run pins s σ H D' I (h ps σ H D' ho hE im)
theorem jss_nil (h : Φ.nx ρ) : JSs T X m ρ [] Φ := JSs.of (ts := tNext) (fun _ => pss_nil) fun ps σ H D' ho hE im => im.nx σ H ρ (Ext.refl H).m hE h
theorem jss_cons {Ψ : En → Prop} (h : JS T X m ρ st { Φ with nx := Ψ }) (r : ∀ ρ', Ψ ρ' → JSs T X m ρ' rest Φ) : JSs T X m ρ (st :: rest) Φ :=
  JSs.of (ts := tSeq (canS X st) (canSs X rest)) (fun i => pss_cons (can_ps st i) (can_pss rest i)) fun ps σ H D' ho hE im =>
    h ps σ H { D' with nx := canSs X rest D' } ho hE ⟨fun σ' H' ρ' e r' q => r ρ' q ps σ' H' D' (ho.mono e) r' (im.ext e), im.rt, im.bk, im.ct⟩
theorem jss_one (h : JS T X m ρ st Φ) : JSs T X m ρ [st] Φ := JSs.of (fun i => pss_one (can_ps st i)) h
/-- the statement that always goes on with one frame -/
theorem jss_next {ρ1 : En} (h : JS T X m ρ st { Φ with nx := fun ρ' => ρ' = ρ1 }) (r : JSs T X m ρ1 rest Φ) : JSs T X m ρ (st :: rest) Φ := jss_cons h fun ρ' e => by rw [e]; exact r
/-- one that never goes on -/
theorem jss_stop (h : JS T X m ρ st { Φ with nx := fun _ => False }) : JSs T X m ρ (st :: rest) Φ := jss_cons h fun ρ' e => e.elim
theorem JS.mono {Ψ : Pst} (h : JS T X m ρ st Ψ) (n : ∀ ρ', Ψ.nx ρ' → Φ.nx ρ') (r : ∀ d ρ', Ψ.rt d ρ' → Φ.rt d ρ') (b : ∀ ρ', Ψ.bk ρ' → Φ.bk ρ') (c : ∀ ρ', Ψ.ct ρ' → Φ.ct ρ') : JS T X m ρ st Φ := fun ps σ H D' ho hE im =>
  h ps σ H D' ho hE ⟨fun σ' H' ρ' e r' q => im.nx σ' H' ρ' e r' (n _ q), fun v H' d σ' ρ' e r' w q => im.rt v H' d σ' ρ' e r' w (r _ _ q), fun σ' H' ρ' e r' q => im.bk σ' H' ρ' e r' (b _ q), fun σ' H' ρ' e r' q => im.ct σ' H' ρ' e r' (c _ q)⟩
theorem JSs.mono {Ψ : Pst} (h : JSs T X m ρ sts Ψ) (n : ∀ ρ', Ψ.nx ρ' → Φ.nx ρ') (r : ∀ d ρ', Ψ.rt d ρ' → Φ.rt d ρ') (b : ∀ ρ', Ψ.bk ρ' → Φ.bk ρ') (c : ∀ ρ', Ψ.ct ρ' → Φ.ct ρ') : JSs T X m ρ sts Φ := fun ps σ H D' ho hE im =>
  h ps σ H D' ho hE ⟨fun σ' H' ρ' e r' q => im.nx σ' H' ρ' e r' (n _ q), fun v H' d σ' ρ' e r' w q => im.rt v H' d σ' ρ' e r' w (r _ _ q), fun σ' H' ρ' e r' q => im.bk σ' H' ρ' e r' (b _ q), fun σ' H' ρ' e r' q => im.ct σ' H' ρ' e r' (c _ q)⟩
variable {e : Expr} {d : D} {pos : Pos}
theorem js_ret (h : JE T X ρ e d) (q : Φ.rt (.d d) ρ) : JS T X m ρ (.Return (some e) pos) Φ := by
  obtain ⟨te, p, x⟩ := h
  exact JS.of (fun i => ps_ret (p i)) fun ps σ H D' ho hE im => x ps σ H ho.toHidOk hE _ fun v H1 e1 r1 => im.rt v H1 (.d d) σ ρ e1.m (hE.ext e1) r1 q
/-- return x, x an own list -/
theorem js_retC (j : Nat) {x : Str} {p : Pos} {L : Addr} {l : List D} (q : Φ.rt (.cl L l) ρ) (hr : ρ[j]? = some (some (.cl L l)) := by rfl) (hN : ∀ i, (X i).N[j]? = some x := by intro _; rfl)
    (hv : ∀ i, Vis (X i).env.scope x := by first | exact fun _ => Or.inl rfl | exact fun _ => Or.inr (Or.inl rfl) | exact fun _ => Or.inr (Or.inr rfl))
    (hd : (x == ("__debug__" : Str)) = false := by decide) (hcd : (x == ("__classdict__" : Str)) = false := by decide) : JS T X m ρ (.Return (some (.Name x p)) pos) Φ :=
  JS.of (fun i => ps_ret (pe_var (i := j) (hN i) (hv i) hd hcd)) fun ps σ H D' ho hE im => by
    obtain ⟨v, h1, h2⟩ := envR_get hE hr
    exact ⟨v, h1, im.rt v H (.cl L l) σ ρ (Ext.refl H).m hE h2 q⟩
/-- return [..], a new list -/
theorem js_retNew {es : List Expr} {l : List D} {p : Pos} (h : JA T X ρ es l) (q : Φ.rt (.new l) ρ) (hl : l.length ≤ 1000000 := by first | exact Nat.le_of_ble_eq_true rfl | decide) : JS T X m ρ (.Return (some (.List es p)) pos) Φ := by
  obtain ⟨ta, pa, x⟩ := h
  refine JS.of (fun i => ps_ret (pe_lst (pa i))) fun ps σ H D' ho hE im => x ps σ H ho.toHidOk hE _ fun vs H1 e1 r1 => ⟨by rw [reps_len r1]; exact big_ok hl, fun p hp => ?_⟩
  have e2 : Ext H (upd H1 p (.lst vs)) := e1.trans (Ext.new hp)
  exact im.rt _ _ (.new l) σ ρ e2.m (hE.ext e2) ⟨p, vs, rfl, e1.free hp, upd_same, Reps.ext (ext_hide (n := fun a => a = p) (fun a z => by rw [z]; exact hp) (Ext.new hp)) _ _ r1⟩ q
theorem js_expr (h : JE T X ρ e d) (q : Φ.nx ρ) (hs : ∀ i, swapsWith e none pos.line (X i).env = pure false := by intro _; rfl) : JS T X m ρ (.Expr e pos) Φ := by
  obtain ⟨te, p, x⟩ := h
  exact JS.of (fun i => ps_expr (p i) (hs i)) fun ps σ H D' ho hE im => x ps σ H ho.toHidOk hE _ fun v H1 e1 r1 => im.nx σ H1 ρ e1.m (hE.ext e1) q
theorem js_set (j : Nat) {x : Str} {pos' : Pos} (h : JE T X ρ e d) (q : Φ.nx (ρ.set j (some (.d d)))) (hN : ∀ i, (X i).N.Nodup) (hi : ∀ i, (X i).N[j]? = some x := by intro _; rfl) (hx : ∀ i, Loc (X i).env.scope x := by first | exact fun _ => Or.inl rfl | exact fun _ => Or.inr rfl)
    (hs : ∀ i, swapsWith e (some (.Name x pos')) pos.line (X i).env = pure false := by intro _; rfl) (hf : ∀ i, (X i).fn x = true ∨ (X i).env.scope.names.lookup x = some .local := by first | exact fun _ => .inl rfl | exact fun _ => .inr rfl) : JS T X m ρ (.Assign [.Name x pos'] e pos) Φ := by
  obtain ⟨te, p, y⟩ := h
  exact JS.of (fun i => ps_set (hN i) (hi i) (hx i) (p i) (hs i) (hf i)) fun ps σ H D' ho hE im => y ps σ H ho.toHidOk hE _ fun v H1 e1 r1 => im.nx _ H1 _ e1.m (envR_set (x := some (.d d)) (v := some v) r1 j (hE.ext e1)) q
theorem js_if {c : Bool} {a b : List Stmt} (h : JT T X ρ e c) (h1 : c = true → JSs T X m ρ a Φ) (h2 : c = false → JSs T X m ρ b Φ) : JS T X m ρ (.If e a b pos) Φ := by
  obtain ⟨tt, p, y⟩ := h
  refine JS.of (fun i => ps_if (p i) (can_pss a i) (can_pss b i)) fun ps σ H D' ho hE im => y ps σ H ho.toHidOk hE _ fun H1 e1 => ?_
  cases c with
  | true =>
    rw [if_pos rfl]
    exact h1 rfl ps σ H1 D' (ho.monoE e1) (hE.ext e1) (im.ext e1.m)
  | false =>
    rw [if_neg Bool.false_ne_true]
    exact h2 rfl ps σ H1 D' (ho.monoE e1) (hE.ext e1) (im.ext e1.m)
theorem js_pass (q : Φ.nx ρ) : JS T X m ρ (.Pass pos) Φ := JS.of (fun _ => ps_pass) fun ps σ H D' ho hE im => im.nx σ H ρ (Ext.refl H).m hE q
theorem js_while {body : List Stmt} (hX : ∀ i, PassesOwn (model (X i).prog (X i).w) (X i).A (X i).env (X i).xe) (I : Nat → En → Prop) (m0 : Nat) (h0 : I m0 ρ)
    (step : ∀ n ρ', I n ρ' → ∃ c, JT T X ρ' e c ∧ (c = true → JSs T X m ρ' body { nx := fun ρ2 => ∃ m', m' < n ∧ I m' ρ2, ct := fun ρ2 => ∃ m', m' < n ∧ I m' ρ2, bk := Φ.nx, rt := Φ.rt }) ∧ (c = false → Φ.nx ρ')) : JS T X m ρ (.While e body [] pos) Φ := by
  refine JS.of (ts := tWhile (fun σ H Q => ∀ i pins s, Inv (X i) pins σ H s → wpAny (model (X i).prog (X i).w) (X i).A (isTrue e (X i).env (eval e (X i).env)) (TP (X i) pins σ Q) (X i).xe s) (canSs X body))
    (fun i => ps_while (hX i) ⟨fun pins s σ H Q I h => h i pins s I⟩ (can_pss body i)) fun ps σ H D' ho hE im => ?_
  refine ⟨fun m1 σ' H' => ExtM m H H' ∧ ∃ ρ', EnvR T H' ps ρ' σ' ∧ I m1 ρ', ⟨m0, (Ext.refl H).m, ρ, hE, h0⟩, ?_⟩
  rintro m1 σ1 H1 ⟨e1, ρ1, r1, i1⟩
  obtain ⟨c, ⟨tt, p, y⟩, ht, hf⟩ := step m1 ρ1 i1
  intro i pins s Iv
  refine (p i).run pins s σ1 H1 _ Iv (y ps σ1 H1 (ho.mono e1).toHidOk r1 _ fun H2 e2 => ?_)
  have e12 : ExtM m H H2 := e1.trans e2.m
  cases c with
  | true =>
    rw [if_pos rfl]
    refine ⟨fun σ' H' => ∃ m', m' < m1 ∧ ExtM m H H' ∧ ∃ ρ', EnvR T H' ps ρ' σ' ∧ I m' ρ', fun σ' H' ⟨m', l, q⟩ => ⟨m', l, q⟩, ?_⟩
    refine ht rfl ps σ1 H2 _ (ho.mono e12) (r1.ext e2) ⟨fun σ' H' ρ' e r ⟨m', l, q⟩ => ⟨m', l, e12.trans e, ρ', r, q⟩, fun v H' d σ' ρ' e r w q => im.rt v H' d σ' ρ' (e12.trans e) r (w.back e12) q, fun σ' H' ρ' e r q => im.nx σ' H' ρ' (e12.trans e) r q, fun σ' H' ρ' e r ⟨m', l, q⟩ => ⟨m', l, e12.trans e, ρ', r, q⟩⟩
  | false =>
    rw [if_neg Bool.false_ne_true]
    exact im.nx σ1 H2 ρ1 e12 (r1.ext e2) (hf rfl)
/-! ### targets -/
def AG (T : Tx) (tg : TG) (ρ : En) (d : D) (Ψ : En → Prop) : Prop := ∀ (ps : Hid) (σ : L2.St) (H : Hp) (v : V) (Q : L2.St → Hp → Prop), HidOk T H ps → EnvR T H ps ρ σ → Rep T (del H ps) d v → (∀ σ' H' ρ', Ext H H' → EnvR T H' ps ρ' σ' → Ψ ρ' → Q σ' H') → tg v σ H Q
def JG (T : Tx) {ι : Type} (X : ι → Cx) (ρ : En) (t : Expr) (d : D) (Ψ : En → Prop) : Prop := ∃ tg, (∀ i, PG (X i) t tg) ∧ AG T tg ρ d Ψ
def AGs (T : Tx) (tg : TGs) (ρ : En) (l : List D) (Ψ : En → Prop) : Prop := ∀ (ps : Hid) (σ : L2.St) (H : Hp) (vs : List V) (Q : L2.St → Hp → Prop), HidOk T H ps → EnvR T H ps ρ σ → Reps T (del H ps) l vs → (∀ σ' H' ρ', Ext H H' → EnvR T H' ps ρ' σ' → Ψ ρ' → Q σ' H') → tg vs σ H Q
def JGs (T : Tx) {ι : Type} (X : ι → Cx) (ρ : En) (t : List Expr) (l : List D) (Ψ : En → Prop) : Prop := ∃ tg, (∀ i, PGs (X i) t tg) ∧ AGs T tg ρ l Ψ
variable {Ψ : En → Prop} {l : List D}
def canG (X : ι → Cx) (t : Expr) : TG := fun v σ H Q => ∀ i pins s u, Inv (X i) pins σ H s → RelV v u → wpAny (model (X i).prog (X i).w) (X i).A (assign t (X i).env u) (fun _ s' => ∃ σ' H', Inv (X i) pins σ' H' s' ∧ Q σ' H') (X i).xe s
theorem can_pg (t : Expr) (i : ι) : PG (X i) t (canG X t) := ⟨fun pins s σ H v u Q I r h => h i pins s u I r⟩
def canGs (X : ι → Cx) (ts : List Expr) : TGs := fun vs σ H Q => ∀ i pins s us, Inv (X i) pins σ H s → Vals vs us → wpAny (model (X i).prog (X i).w) (X i).A (assignInOrder ((assignEach ts (X i).env).map (·.2)) us) (fun _ s' => ∃ σ' H', Inv (X i) pins σ' H' s' ∧ Q σ' H') (X i).xe s
theorem can_pgs (ts : List Expr) (i : ι) : PGs (X i) ts (canGs X ts) := ⟨fun pins s σ H v u Q I r h => h i pins s u I r⟩
theorem jg_name (j : Nat) {x : Str} (hN : ∀ i, (X i).N.Nodup) (q : Ψ (ρ.set j (some (.d d)))) (hi : ∀ i, (X i).N[j]? = some x := by intro _; rfl) (hx : ∀ i, Loc (X i).env.scope x := by first | exact fun _ => Or.inl rfl | exact fun _ => Or.inr rfl)
    (hf : ∀ i, (X i).fn x = true ∨ (X i).env.scope.names.lookup x = some .local := by first | exact fun _ => .inl rfl | exact fun _ => .inr rfl) : JG T X ρ (.Name x pos) d Ψ :=
  ⟨gName j, fun i => pg_name (hN i) (hi i) (hx i) (hf i), fun ps σ H v Q ho hE r k => k _ H _ (Ext.refl H) (envR_set (x := some (.d d)) (v := some v) r j hE) q⟩
theorem jgs_nil (q : Ψ ρ) : JGs T X ρ [] [] Ψ := ⟨gNil, fun _ => pgs_nil, fun ps σ H vs Q ho hE r k => ⟨reps_nil.mp r, k σ H ρ (Ext.refl H) hE q⟩⟩
theorem jgs_cons {t : Expr} {ts : List Expr} {Ω : En → Prop} (h : JG T X ρ t d Ω) (r : ∀ ρ', Ω ρ' → JGs T X ρ' ts l Ψ) (hs : ∀ i, (assignEach (t :: ts) (X i).env).map (·.2) = assign t (X i).env :: (assignEach ts (X i).env).map (·.2) := by intro _; rfl) : JGs T X ρ (t :: ts) (d :: l) Ψ := by
  obtain ⟨tg, p, y⟩ := h
  refine ⟨gCons tg (canGs X ts), fun i => pgs_cons (p i) (can_pgs ts i) (hs i), fun ps σ H vs Q ho hE rr k => ?_⟩
  obtain ⟨v, vr, rfl, q, t⟩ := reps_cons.mp rr
  refine ⟨v, vr, rfl, y ps σ H v _ ho hE q fun σ' H' ρ' e r' w => ?_⟩
  obtain ⟨tg2, p2, y2⟩ := r ρ' w
  intro i pins s us Iv rv
  exact (p2 i).run pins s σ' H' vr us Q Iv rv (y2 ps σ' H' vr Q (ho.mono e) r' (Reps.ext (e.del ps) _ _ t) fun σ2 H2 ρ2 e2 r2 w2 => k σ2 H2 ρ2 (e.trans e2) r2 w2)
theorem jgs_next {t : Expr} {ts : List Expr} {ρ1 : En} (h : JG T X ρ t d (fun ρ' => ρ' = ρ1)) (r : JGs T X ρ1 ts l Ψ) (hs : ∀ i, (assignEach (t :: ts) (X i).env).map (·.2) = assign t (X i).env :: (assignEach ts (X i).env).map (·.2) := by intro _; rfl) : JGs T X ρ (t :: ts) (d :: l) Ψ := jgs_cons h (fun ρ' e => by rw [e]; exact r) hs
theorem jg_tup {es : List Expr} {kk : Nat} (hX : Fam T k X) (h : JGs T X ρ es l Ψ) (hn : ∀ i, (assignEach es (X i).env).length = l.length := by intro _; rfl) (hst : ∀ i, (assignEach es (X i).env).findIdx? (·.1) = none := by intro _; rfl) : JG T X ρ (.Tuple es kk pos) (.tup l) Ψ := by
  obtain ⟨tg, p, y⟩ := h
  refine ⟨gTup T.K l.length tg, fun i => ?_, fun ps σ H v Q ho hE r q => ?_⟩
  · rw [← hX.K i]
    exact pg_tup (hX.calm i) (p i) (hn i) (hst i)
  · obtain ⟨a, vs, rfl, s, r1⟩ := rep_tup.mp r
    exact ⟨a, vs, rfl, sqT_ext ext_del s, reps_len r1, y ps σ H vs Q ho hE r1 q⟩
/-- t = e -/
theorem js_asg {t : Expr} (h : JE T X ρ e d) (g : JG T X ρ t d Φ.nx) (hs : ∀ i, swapsWithSole [t] e pos.line (X i).env = pure false := by intro _; rfl) (hw : ∀ i, swappedStores [t] e (X i).env = pure none := by intro _; rfl)
    (h1 : ∀ i, (assignEach [t] (X i).env).map (·.2) = [assign t (X i).env] := by intro _; rfl) : JS T X m ρ (.Assign [t] e pos) Φ := by
  obtain ⟨te, p, y⟩ := h
  obtain ⟨tg, pg, yg⟩ := g
  exact JS.of (fun i => ps_asg (p i) (pg i) (hs i) (hw i) (h1 i)) fun ps σ H D' ho hE im => y ps σ H ho.toHidOk hE _ fun v H1 e1 r1 => yg ps σ H1 v _ (ho.monoE e1).toHidOk (hE.ext e1) r1 fun σ' H' ρ' e2 r2 q => im.nx σ' H' ρ' (e1.trans e2).m r2 q
/-- a, b = x, y: two local names -/
theorem js_par {i1 i2 : Nat} {x y : Str} {a b : Expr} {px py pt : Pos} {kt k2 pt2} {u v : D} (hX : Fam T k X) (hN : ∀ i, (X i).N.Nodup) (ha : JA T X ρ [a, b] [u, v]) (q : Φ.nx ((ρ.set i1 (some (.d u))).set i2 (some (.d v)))) (hi : ∀ i, (X i).N[i1]? = some x := by intro _; rfl) (hj : ∀ i, (X i).N[i2]? = some y := by intro _; rfl) (hij : i1 ≠ i2 := by decide)
    (hx : ∀ i, (X i).env.scope.names.lookup x = some .local := by intro _; rfl) (hy : ∀ i, (X i).env.scope.names.lookup y = some .local := by intro _; rfl)
    (hw : ∀ i, swappedStores [.Tuple [.Name x px, .Name y py] kt pt] (.Tuple [a, b] k2 pt2) (X i).env = pure (some [x, y]) := by intro _; rfl)
    (hs : ∀ i, swapsWithSole [.Tuple [.Name x px, .Name y py] kt pt] (.Tuple [a, b] k2 pt2) pos.line (X i).env = pure false := by intro _; rfl) :
    JS T X m ρ (.Assign [.Tuple [.Name x px, .Name y py] kt pt] (.Tuple [a, b] k2 pt2) pos) Φ := by
  obtain ⟨ta, p, z⟩ := ha
  refine JS.of (ts := tPar i1 i2 ta) (fun i => ps_par (hX.calm i) (hN i) (hi i) (hj i) hij (hx i) (hy i) (p i) (hw i) (hs i)) fun ps σ H D' ho hE im => z ps σ H ho.toHidOk hE _ fun vs H1 e1 r1 => ?_
  obtain ⟨w1, w2, rfl, r1, r2⟩ := reps_two r1
  exact ⟨w1, w2, rfl, im.nx _ H1 _ e1.m (envR_set (x := some (.d v)) (v := some w2) r2 i2 (envR_set (x := some (.d u)) (v := some w1) r1 i1 (hE.ext e1))) q⟩
/-- x op= e, of ints -/
theorem js_augI (j : Nat) {x : Str} {pos' : Pos} {op : Operator} {f : Int → Int → Int} {a b : Int} (ho : ∀ i, PIp (X i) op (ipI f)) (hN : ∀ i, (X i).N.Nodup) (hr : ρ[j]? = some (some (.d (.int a)))) (h : JE T X ρ e (.int b)) (q : Φ.nx (ρ.set j (some (.d (.int (f a b)))))) (hi : ∀ i, (X i).N[j]? = some x := by intro _; rfl)
    (hx : ∀ i, Loc (X i).env.scope x := by first | exact fun _ => Or.inl rfl | exact fun _ => Or.inr rfl) (hf : ∀ i, (X i).fn x = true ∨ (X i).env.scope.names.lookup x = some .local := by first | exact fun _ => .inl rfl | exact fun _ => .inr rfl) : JS T X m ρ (.AugAssign (.Name x pos') op e pos) Φ := by
  obtain ⟨te, p, y⟩ := h
  refine JS.of (fun i => ps_aug (hN i) (hi i) (hx i) (p i) (ho i) (hf i)) fun ps σ H D' hh hE im => ?_
  obtain ⟨v, e1, r1⟩ := envR_get hE hr
  have r1 : Rep T (del H ps) (.int a) v := r1
  refine ⟨v, e1, y ps σ H hh.toHidOk hE _ fun u H1 e2 r2 => ⟨a, b, rep_int.mp r1, rep_int.mp r2, im.nx _ H1 _ e2.m (envR_set (x := some (.d (.int (f a b)))) (v := some (.int (f a b))) (show Rep T (del H1 ps) (.int (f a b)) (.int (f a b)) from rep_int.mpr rfl) j (hE.ext e2)) q⟩⟩
/-- a PIp by an operator's own rule -/
theorem pip_of {X : Cx} {op : Operator} {C : Int → Int → Prop} {f : Int → Int → Int} (h : OpR X (inplaceOp op) (rI C fun i j => .int (f i j))) : PIp X op (fun x y H Q => ∃ i j, x = .int i ∧ y = .int j ∧ C i j ∧ Q (.int (f i j)) H) :=
  fun pins s σ H x y v u Q I r1 r2 hq => h pins s σ H x y v u Q I r1 r2 hq
theorem js_augC (j : Nat) {x : Str} {pos' : Pos} {op : Operator} {f : Int → Int → Int} {C : Int → Int → Prop} {a b : Int} (ho : ∀ i, OpR (X i) (inplaceOp op) (rI C fun i j => .int (f i j))) (hN : ∀ i, (X i).N.Nodup) (hr : ρ[j]? = some (some (.d (.int a)))) (h : JE T X ρ e (.int b)) (hC : C a b) (q : Φ.nx (ρ.set j (some (.d (.int (f a b)))))) (hi : ∀ i, (X i).N[j]? = some x := by intro _; rfl)
    (hx : ∀ i, Loc (X i).env.scope x := by first | exact fun _ => Or.inl rfl | exact fun _ => Or.inr rfl) (hf : ∀ i, (X i).fn x = true ∨ (X i).env.scope.names.lookup x = some .local := by first | exact fun _ => .inl rfl | exact fun _ => .inr rfl) : JS T X m ρ (.AugAssign (.Name x pos') op e pos) Φ := by
  obtain ⟨te, p, y⟩ := h
  refine JS.of (fun i => ps_aug (hN i) (hi i) (hx i) (p i) (pip_of (ho i)) (hf i)) fun ps σ H D' hh hE im => ?_
  obtain ⟨v, e1, r1⟩ := envR_get hE hr
  have r1 : Rep T (del H ps) (.int a) v := r1
  refine ⟨v, e1, y ps σ H hh.toHidOk hE _ fun u H1 e2 r2 => ⟨a, b, rep_int.mp r1, rep_int.mp r2, hC, im.nx _ H1 _ e2.m (envR_set (x := some (.d (.int (f a b)))) (v := some (.int (f a b))) (show Rep T (del H1 ps) (.int (f a b)) (.int (f a b)) from rep_int.mpr rfl) j (hE.ext e2)) q⟩⟩
/-- never come to -/
theorem js_for {t iter : Expr} {body : List Stmt} {wi : TI} (hX : Fam T k X) (hp : ∀ i, PassesOwn (model (X i).prog (X i).w) (X i).A (X i).env (X i).xe) (hi : ∀ i, PI (X i) t iter wi)
    (hw : ∀ (ps : Hid) (σ : L2.St) (H : Hp) (D' : Ends), HM T m H ps → EnvR T H ps ρ σ → Imp T m ps H Φ D' → tFor wi (canG X t) (canSs X body) D' σ H)
    (hs : ∀ i x, foldedSetIterable iter (X i).env x = pure x := by intro _ _; rfl) : JS T X m ρ (.For t iter body [] pos) Φ :=
  JS.of (fun i => ps_for (hp i) (hX.calm i) (hi i) (can_pg t i) (can_pss body i) (hs i)) hw
end
/-! ### a def -/
section
variable {T : Tx}
abbrev XB (T : Tx) (N : List Str) (qual : Str) (st : Stmt) (f : Addr) (cdv : Value) (A : Around) (outer : List Env) (s : Shared) (H : Hp) (E : XK) : Unit → Cx := fun _ => (cxOf CX0 T.P T.w T.K T.mg T.base N qual (defScope st) f cdv A outer s H E).nox
/-- a def as the head tells it; C says of its code object what is known -/
structure FunC (T : Tx) (x qual : Str) (st : Stmt) (f : Addr) (fd : FuncData) (C : Value → Prop) : Prop where
  ok : ∀ {N ps : List Str} {k : Nat} {sp : Sp}, FnScope N ps (defScope st) → (∀ vs H Q E, sp vs H Q E → vs.length = ps.length) →
    (∀ (cdv : Value) (A : Around) (outer : List Env) (s : Shared) (H : Hp) (vs : List V) (Q : VK) (E : XK), C cdv → Room k (A.deeper (envOfC qual (defScope st) s.heap.objs.size f cdv)) → sp vs H Q E →
      ∃ t, PSs (cxOf CX0 T.P T.w T.K T.mg T.base N qual (defScope st) f cdv A outer s H E).nox (defBody st) t ∧ t { nx := fun _ H' => Q .non H', rt := Q } (L2.start N vs) H) → FnOk T.P T.w T.K T.mg T.base CX0 (k + 1) f fd ps sp
  kp : PySem.W.keepIn T.K (.ref f) = true
abbrev FunX (T : Tx) (x qual : Str) (st : Stmt) (f : Addr) (fd : FuncData) : Prop := FunC T x qual st f fd fun _ => True
theorem fn_mkC0 {C : Value → Prop} {x qual : Str} {st : Stmt} {f : Addr} {fd : FuncData} {N ps : List Str} {k : Nat} {R : List D → D → Prop} (F : FunC T x qual st f fd C) (S : FnScope N ps (defScope st)) (len : ∀ ds d, R ds d → ds.length = ps.length)
    (body : ∀ (cdv : Value) (A : Around) (outer : List Env) (s : Shared) (H : Hp) (E : XK), C cdv → Fam T k (XB T N qual st f cdv A outer s H E) → ∀ ds d, R ds d → JSs T (XB T N qual st f cdv A outer s H E) noM (startE N ds) (defBody st) { nx := fun _ => d = .non, rt := fun x _ => x = .d d }) : FnOk T.P T.w T.K T.mg T.base CX0 (k + 1) f fd ps (SpP T R) := by
  refine F.ok S (fun vs H Q E h => ?_) (fun cdv A outer s H vs Q E hC hr h => ?_)
  · obtain ⟨_, ds, d, _, r, q, _⟩ := h
    rw [reps_len r, len ds d q]
  · obtain ⟨ps, ds, d, ho, r, q, kk⟩ := h
    have fam : Fam T k (XB T N qual st f cdv A outer s H E) := ⟨fun _ => rfl, fun _ => rfl, fun _ => rfl, fun _ => rfl, fun _ => rfl, fun _ => rfl, fun _ => hr⟩
    refine ⟨canSs (XB T N qual st f cdv A outer s H E) (defBody st), can_pss (X := XB T N qual st f cdv A outer s H E) (defBody st) (), ?_⟩
    refine body cdv A outer s H E hC fam ds d q ps _ H _ ⟨ho, fun _ z => z.elim⟩ (envR_start r) ⟨fun σ' H' ρ' e r' z => ?_, fun v H' d' σ' ρ' e r' w z => ?_, fun _ _ _ _ _ z => z.elim, fun _ _ _ _ _ z => z.elim⟩
    · subst z
      exact kk _ H' (e.ext fun _ z => z.elim) (rep_non.mpr rfl)
    · subst z
      exact kk v H' (e.ext fun _ z => z.elim) w
theorem fn_mk {x qual : Str} {st : Stmt} {f : Addr} {fd : FuncData} {N ps : List Str} {k : Nat} {R : List D → D → Prop} (F : FunX T x qual st f fd) (S : FnScope N ps (defScope st)) (len : ∀ ds d, R ds d → ds.length = ps.length)
    (body : ∀ (cdv : Value) (A : Around) (outer : List Env) (s : Shared) (H : Hp) (E : XK), Fam T k (XB T N qual st f cdv A outer s H E) → ∀ ds d, R ds d → JSs T (XB T N qual st f cdv A outer s H E) noM (startE N ds) (defBody st) { nx := fun _ => d = .non, rt := fun x _ => x = .d d }) : FnOk T.P T.w T.K T.mg T.base CX0 (k + 1) f fd ps (SpP T R) :=
  fn_mkC0 F S len fun cdv A outer s H E _ => body cdv A outer s H E
theorem pfn_mk {x qual : Str} {st : Stmt} {f : Addr} {fd : FuncData} {N ps : List Str} {k : Nat} {R : List D → D → Prop} (F : FunX T x qual st f fd) (S : FnScope N ps (defScope st)) (hm : T.mg x = some (.ref f)) (hb : Binds T.K fd ps []) (len : ∀ ds d, R ds d → ds.length = ps.length)
    (body : ∀ (cdv : Value) (A : Around) (outer : List Env) (s : Shared) (H : Hp) (E : XK), Fam T k (XB T N qual st f cdv A outer s H E) → ∀ ds d, R ds d → JSs T (XB T N qual st f cdv A outer s H E) noM (startE N ds) (defBody st) { nx := fun _ => d = .non, rt := fun x _ => x = .d d }) : PFn T x (k + 1) R :=
  ⟨f, fd, ps, fn_mk F S len body, hm, F.kp, hb⟩
end
end Fr
namespace Fr
open PySem PySem.Spec PyProof.Rows L2
/-! ### one more address hidden -/
abbrev hid1 (ps : Hid) (L : Addr) : Hid := fun a => ps a ∨ a = L
theorem del_upd {H : Hp} {ps : Hid} {L : Addr} {o : HO} (h : ps L) : del (upd H L o) ps = del H ps := by
  funext a
  unfold del
  by_cases p : ps a
  · rw [if_pos p, if_pos p]
  · rw [if_neg p, if_neg p]
    exact upd_ne fun e => p (e ▸ h)
theorem hid_one {H : Hp} {L : Addr} (n : H L = none) : ∀ a, a = L → H a = none := fun a e => by rw [e]; exact n
theorem ext_unhide {H : Hp} {ps n : Hid} : Ext (del H fun a => ps a ∨ n a) (del H ps) := Ext.sub fun a o q => by
  obtain ⟨q, np⟩ := del_in q
  rw [del_of fun z => np (.inl z)]
  exact q
theorem HidOk.hide {T : Tx} {H : Hp} {ps : Hid} {L : Addr} {o : HO} (h : HidOk T H ps) (q : H L = some o) : HidOk T H (hid1 ps L) := by
  refine ⟨fun a z n => ?_, h.tab⟩
  rcases z with z | z
  · exact h.there a z n
  · rw [z, q] at n
    cases n
/-! ### data for == -/
mutual
def toPy : D → PyData
  | .int i => .int i
  | .bl b => .bool b
  | .non => .none
  | .str s => .str s
  | .tup l => .tuple (toPys l)
  | .lst l => .list (toPys l)
  | .obj _ _ => .none
def toPys : List D → List PyData
  | [] => []
  | d :: ds => toPy d :: toPys ds
end
mutual
def plainD : D → Bool
  | .tup l => plainDs l
  | .lst l => plainDs l
  | .obj _ _ => false
  | _ => true
def plainDs : List D → Bool
  | [] => true
  | d :: ds => plainD d && plainDs ds
end
section
variable {T : Tx} {H : Hp}
mutual
theorem rep_dp : ∀ (d : D) (v : V), plainD d = true → Rep T H d v → Dp T.K H v (toPy d)
  | .int i, v, _, h => by rw [rep_int.mp h, toPy]; exact .int i
  | .bl b, v, _, h => by rw [rep_bl.mp h, toPy]; exact .bl b
  | .non, v, _, h => by rw [rep_non.mp h, toPy]; exact .non
  | .str s, v, _, h => by rw [rep_str.mp h, toPy]; exact .str s
  | .tup l, v, p, h => by
    obtain ⟨a, vs, rfl, s, r⟩ := rep_tup.mp h
    rw [toPy]
    exact .tup s (reps_dp l vs (by rw [plainD] at p; exact p) r)
  | .lst l, v, p, h => by
    obtain ⟨a, vs, rfl, s, r⟩ := rep_lst.mp h
    rw [toPy]
    exact .lst s (reps_dp l vs (by rw [plainD] at p; exact p) r)
  | .obj _ _, _, p, _ => by rw [plainD] at p; cases p
theorem reps_dp : ∀ (l : List D) (vs : List V), plainDs l = true → Reps T H l vs → DpAll T.K H vs (toPys l)
  | [], vs, _, h => by rw [reps_nil.mp h, toPys]; exact .nil
  | d :: ds, vs, p, h => by
    obtain ⟨v, r, rfl, q, t⟩ := reps_cons.mp h
    rw [plainDs, Bool.and_eq_true] at p
    rw [toPys]
    exact .cons (rep_dp d v p.1 q) (reps_dp ds r p.2 t)
end
end
mutual
theorem dp_ext {K : PySem.W.Frag} {H H' : Hp} (e : Ext H H') : ∀ (d : PyData) (v : V), Dp K H v d → Dp K H' v d
  | .none, _, .non => .non
  | .bool _, _, .bl b => .bl b
  | .int _, _, .int i => .int i
  | .str _, _, .str s => .str s
  | .list ds, _, .lst s h => .lst (sqL_ext e s) (dps_ext e ds _ h)
  | .tuple ds, _, .tup s h => .tup (sqT_ext e s) (dps_ext e ds _ h)
  | .dict _, _, h => by cases h
theorem dps_ext {K : PySem.W.Frag} {H H' : Hp} (e : Ext H H') : ∀ (l : List PyData) (vs : List V), DpAll K H vs l → DpAll K H' vs l
  | [], _, .nil => .nil
  | d :: ds, _, .cons h t => .cons (dp_ext e d _ h) (dps_ext e ds _ t)
end
/-! ### isinstance -/
def tyOf (T : Tx) : D → Value
  | .int _ => .type "int"
  | .bl _ => .type "bool"
  | .non => .type "NoneType"
  | .str _ => .type "str"
  | .tup _ => .type "tuple"
  | .lst _ => .type "list"
  | .obj k _ => .ref (T.cls k)
/-- what of the classes with slots a proof leans on -/
structure ClsOk (T : Tx) (k : Bool) : Prop where
  sc : SlX.SCls T.K (T.cls k)
  isi : SlX.SIsi T.K (T.cls k)
section
variable {T : Tx} {ι : Type} {X : ι → Cx} {ρ : En} {k : Nat} {a b : Expr} {pos : Pos} {x y : D}
theorem je_eqD (hX : Fam T k X) (ha : JE T X ρ a x) (hb : JE T X ρ b y) (p1 : plainD x = true := by rfl) (p2 : plainD y = true := by rfl) (s1 : SeqAt.shaped (toPy x) = true := by rfl) (s2 : SeqAt.shaped (toPy y) = true := by rfl) : JE T X ρ (.Compare a [.Eq] [b] pos) (.bl (PyData.eqv (toPy x) (toPy y))) := by
  obtain ⟨ta, pa, xa⟩ := ha
  obtain ⟨tb, pb, xb⟩ := hb
  exact ⟨_, fun i => pe_cmpR (r := rEqD T.K) (by rw [← hX.K i]; exact op_eqD (hX.room i).units) (pa i) (pb i) (nomark _), ae_op xa xb fun ps H v u Q _ h1 h2 q =>
    ⟨_, _, dp_ext ext_del _ _ (rep_dp x v p1 h1), dp_ext ext_del _ _ (rep_dp y u p2 h2), s1, s2, q _ H (Ext.refl H) (rep_bl.mpr rfl)⟩⟩
theorem jt_eqD (hX : Fam T k X) (ha : JE T X ρ a x) (hb : JE T X ρ b y) (p1 : plainD x = true := by rfl) (p2 : plainD y = true := by rfl) (s1 : SeqAt.shaped (toPy x) = true := by rfl) (s2 : SeqAt.shaped (toPy y) = true := by rfl) : JT T X ρ (.Compare a [.Eq] [b] pos) (PyData.eqv (toPy x) (toPy y)) :=
  jt_cmp (r := rEqD T.K) (fun i => by rw [← hX.K i]; exact op_eqD (hX.room i).units) (nomark _) ha hb fun ps H v u Q _ h1 h2 q => ⟨_, _, dp_ext ext_del _ _ (rep_dp x v p1 h1), dp_ext ext_del _ _ (rep_dp y u p2 h2), s1, s2, q⟩
theorem jt_neD (hX : Fam T k X) (ha : JE T X ρ a x) (hb : JE T X ρ b y) (p1 : plainD x = true := by rfl) (p2 : plainD y = true := by rfl) (s1 : SeqAt.shaped (toPy x) = true := by rfl) (s2 : SeqAt.shaped (toPy y) = true := by rfl) : JT T X ρ (.Compare a [.NotEq] [b] pos) (!PyData.eqv (toPy x) (toPy y)) :=
  jt_cmp (r := rNeD T.K) (fun i => by rw [← hX.K i]; exact op_neD (hX.room i).units) (nomark _) ha hb fun ps H v u Q _ h1 h2 q => ⟨_, _, dp_ext ext_del _ _ (rep_dp x v p1 h1), dp_ext ext_del _ _ (rep_dp y u p2 h2), s1, s2, q⟩
theorem tyx_t {K : PySem.W.Frag} {H : Hp} {a : Addr} {vs : List V} (h : SqT K H a vs) : TyX K H (.ref a) (.type "tuple") := by
  rcases h with (h | ⟨o, h⟩) | ⟨o, its, n, e, c, _⟩
  · exact .base (.tup h)
  · exact .fTuple h
  · exact .kTuple e c
theorem tyx_l {K : PySem.W.Frag} {H : Hp} {a : Addr} {vs : List V} (h : SqL K H a vs) : TyX K H (.ref a) (.type "list") := by
  rcases h with (h | ⟨o, h⟩) | ⟨o, its, n, e, c, _⟩
  · exact .base (.lst h)
  · exact .base (.frz h)
  · exact .kList e c
theorem rep_tyx {H : Hp} {d : D} {v : V} (hn : ∀ k e, d ≠ .obj k e) (h : Rep T H d v) : TyX T.K H v (tyOf T d) := by
  cases d with
  | int i => rw [rep_int.mp h]; exact .base (.int i)
  | bl i => rw [rep_bl.mp h]; exact .base (.bl i)
  | non => rw [rep_non.mp h]; exact .base .non
  | str i => rw [rep_str.mp h]; exact .base (.str i)
  | tup l => obtain ⟨a, vs, rfl, s, _⟩ := rep_tup.mp h; exact tyx_t s
  | lst l => obtain ⟨a, vs, rfl, s, _⟩ := rep_lst.mp h; exact tyx_l s
  | obj k e => exact (hn k e rfl).elim
/-- isinstance(x, C), C given by its value -/
theorem je_isi {p : Pos} {c : V} {u : Value} {r : Bool} (hX : Fam T k X) (hm : T.mg "isinstance" = none) (hc : ∀ j, ClsOk T j) (ha : JE T X ρ a x) (hb : ∀ i, PE (X i) b (tC c)) (cv : ClsV c u) (hk : PySem.W.kitOne T.K (tyOf T x) u = some r) (hg : ∀ i, Gl (X i) "isinstance" := by intro _; rfl)
    (he : ∀ i, starEach [a, b] (X i).env = (false, eval a (X i).env) :: starEach [b] (X i).env := by intro _; rfl) (he2 : ∀ i, starEach [b] (X i).env = (false, eval b (X i).env) :: starEach [] (X i).env := by intro _; rfl) (hpl : ∀ i, (backTo pos (starEach [b] (X i).env)).any (·.1) = false := by intro _; rfl) :
    JE T X ρ (.Call (.Name "isinstance" p) [a, b] [] pos) (.bl r) := by
  obtain ⟨ta, pa, xa⟩ := ha
  have one : ∀ w, RelV c w → w = u := fun w r => cv.eq r
  have rcu : RelV c u := by cases cv <;> rfl
  by_cases ho : ∃ j e, x = .obj j e
  · obtain ⟨j, e, rfl⟩ := ho
    refine ⟨_, fun i => pe_callB (id := "isinstance") (r := SlX.rIsiSl T.K u) (by rw [← hX.K i]; exact SlX.call_isiSl u) (hg i) (by rw [hX.mg i]; exact hm) (by decide +kernel) (pa_cons (pa i) (pa_cons (hb i) pa_nil (he2 i)) (he i)) (he := he i) (hpl := hpl i), fun ps σ H hh hE Q q => xa ps σ H hh hE _ fun v H1 e1 r1 => ?_⟩
    obtain ⟨w, dx, y, rfl, s, _⟩ := rep_obj.mp r1
    exact ⟨w, T.cls j, dx, [some y], c, r, rfl, rcu, one, slt_ext ext_del s, (hc j).sc, (hc j).isi, hk, q _ H1 e1 (rep_bl.mpr rfl)⟩
  · refine ⟨_, fun i => pe_callB (id := "isinstance") (r := rIsi T.K) (by rw [← hX.K i]; exact call_isi) (hg i) (by rw [hX.mg i]; exact hm) (by decide +kernel) (pa_cons (pa i) (pa_cons (hb i) pa_nil (he2 i)) (he i)) (he := he i) (hpl := hpl i), fun ps σ H hh hE Q q => xa ps σ H hh hE _ fun v H1 e1 r1 => ?_⟩
    exact ⟨v, c, tyOf T x, u, r, rfl, cv, rep_tyx (fun j e z => ho ⟨j, e, z⟩) (Rep.ext ext_del _ _ r1), hk, q _ H1 e1 (rep_bl.mpr rfl)⟩
/-- a built-in class -/
theorem je_isiB {n : String} {x' : Str} {p p2 : Pos} {r : Bool} (hX : Fam T k X) (hm : T.mg "isinstance" = none) (hc : ∀ j, ClsOk T j) (hm2 : T.mg x' = none) (hv : bootBuiltins x' = some (.type n)) (ha : JE T X ρ a x) (hk : PySem.W.kitOne T.K (tyOf T x) (.type n) = some r) (hg : ∀ i, Gl (X i) "isinstance" := by intro _; rfl)
    (hg2 : ∀ i, Gl (X i) x' := by intro _; rfl) (hn : x' ≠ "__name__" := by decide) (hd : (x' == ("__debug__" : Str)) = false := by decide)
    (he : ∀ i, starEach [a, .Name x' p2] (X i).env = (false, eval a (X i).env) :: starEach [.Name x' p2] (X i).env := by intro _; rfl) : JE T X ρ (.Call (.Name "isinstance" p) [a, .Name x' p2] [] pos) (.bl r) :=
  je_isi (c := .ty n) hX hm hc ha (fun i => pe_bltn (hg2 i) (by rw [hX.mg i]; exact hm2) hv rfl hn hd) (.ty n) hk hg he (fun _ => rfl) (fun _ => rfl)
/-- an own class -/
theorem je_isiC {C : Addr} {x' : Str} {p p2 : Pos} {r : Bool} (hX : Fam T k X) (hm : T.mg "isinstance" = none) (hc : ∀ j, ClsOk T j) (hm2 : T.mg x' = some (.ref C)) (ha : JE T X ρ a x) (hk : PySem.W.kitOne T.K (tyOf T x) (.ref C) = some r) (hg : ∀ i, Gl (X i) "isinstance" := by intro _; rfl)
    (hg2 : ∀ i, Gl (X i) x' := by intro _; rfl) (hd : (x' == ("__debug__" : Str)) = false := by decide)
    (he : ∀ i, starEach [a, .Name x' p2] (X i).env = (false, eval a (X i).env) :: starEach [.Name x' p2] (X i).env := by intro _; rfl) : JE T X ρ (.Call (.Name "isinstance" p) [a, .Name x' p2] [] pos) (.bl r) :=
  je_isi (c := .ref C) hX hm hc ha (fun i => pe_glob (hg2 i) (by rw [hX.mg i]; exact hm2) rfl hd) (.own C) hk hg he (fun _ => rfl) (fun _ => rfl)
/-! ### attributes of instances with one slot -/
structure SlotOk (T : Tx) (k : Bool) (f : Str) : Prop where
  ex : ∃ p, SlX.Slot1 T.K (T.cls k) f p 0
theorem je_slot {j : Bool} {f : Str} (hX : Fam T k X) (hc : ClsOk T j) (hs : SlotOk T j f) (ha : JE T X ρ a (.obj j x)) (hb : ∀ i, attributeBase a f (X i).env (eval a (X i).env) = eval a (X i).env := by intro _; rfl) : JE T X ρ (.Attribute a f pos) x := by
  obtain ⟨ta, pa, xa⟩ := ha
  obtain ⟨p, sl⟩ := hs.ex
  refine ⟨SlX.tSl T.K ta f, fun i => by rw [← hX.K i]; exact SlX.pe_sl (pa i) (hb i), fun ps σ H hh hE Q q => xa ps σ H hh hE _ fun v H1 e1 r1 => ?_⟩
  obtain ⟨w, dx, y, rfl, s, r⟩ := rep_obj.mp r1
  exact ⟨w, T.cls j, dx, p, [some y], 0, y, rfl, slt_ext ext_del s, hc.sc, sl, rfl, q y H1 e1 r⟩
/-! ### comprehensions -/
/-- the blocks of a comprehension in the contexts X -/
abbrev blkF {ι : Type} (X : ι → Cx) (scope : Scope) : (ι × Shared × Hp × Addr × List (Str × Addr) × List Addr) → Cx := fun z => (X z.1).blk z.2.1 z.2.2.1 scope (compEnvC scope z.2.2.2.2.1 z.2.2.2.1 (X z.1).env) z.2.2.2.2.2
theorem Fam.blk (hX : Fam T k X) (scope : Scope) : Fam T k (blkF X scope) := ⟨fun i => hX.P i.1, fun i => hX.w i.1, fun i => hX.K i.1, fun i => hX.mg i.1, fun i => hX.base i.1, fun i => hX.calm i.1, fun i => hX.room i.1⟩
/-- what a loop, a comprehension walks: the items src, one after the other -/
def Wlk (T : Tx) (ps : Hid) (src : List D) (J : It) (H1 : Hp) : Prop := ∀ H' ps', Ext (del H1 ps) (del H' ps') → HidOk T H' ps' → ∀ n, (∀ d, src[n]? = some d → J.go n H' ∧ ∀ y H'', J.yld n H' y H'' → Ext H' H'' ∧ Rep T (del H'' ps') d y) ∧ (src.length ≤ n → J.stop n H')
def JIt (T : Tx) {ι : Type} (X : ι → Cx) (ρ : En) (tg iter : Expr) (src : List D) : Prop := ∃ wi, (∀ i, PI (X i) tg iter wi) ∧ ∀ (ps : Hid) (σ : L2.St) (H : Hp), HidOk T H ps → EnvR T H ps ρ σ → ∀ R : It → Hp → Prop, (∀ J H1, Ext H H1 → Wlk T ps src J H1 → R J H1) → wi σ H R
theorem jit_list {tg iter : Expr} {src : List D} (hX : Fam T k X) (h : JE T X ρ iter (.lst src)) : JIt T X ρ tg iter src := by
  obtain ⟨ti, pi, xi⟩ := h
  refine ⟨iList T.K ti, fun i => by rw [← hX.K i]; exact pi_list (pi i), fun ps σ H hh hE R q => xi ps σ H hh hE _ fun v H1 e1 r1 => ?_⟩
  obtain ⟨a, vs, rfl, s, rs⟩ := rep_lst.mp r1
  refine ⟨a, rfl, ⟨vs, sqL_ext ext_del s⟩, q _ H1 e1 fun H' ps' e2 _ n => ⟨fun d hd => ?_, fun hn => ⟨vs, sqL_ext ext_del (sqL_ext e2 s), by rw [reps_len rs]; exact hn⟩⟩⟩
  obtain ⟨x, hx, rx⟩ := reps_get rs hd
  refine ⟨⟨vs, x, sqL_ext ext_del (sqL_ext e2 s), hx⟩, fun y H'' ⟨e, z⟩ => ?_⟩
  subst e
  have := z vs (sqL_ext ext_del (sqL_ext e2 s))
  rw [hx] at this
  cases this
  exact ⟨Ext.refl _, Rep.ext e2 _ _ rx⟩
theorem jit_tup {tg iter : Expr} {src : List D} (hX : Fam T k X) (h : JE T X ρ iter (.tup src)) : JIt T X ρ tg iter src := by
  obtain ⟨ti, pi, xi⟩ := h
  refine ⟨iTup T.K ti, fun i => by rw [← hX.K i]; exact pi_tup (pi i), fun ps σ H hh hE R q => xi ps σ H hh hE _ fun v H1 e1 r1 => ?_⟩
  obtain ⟨a, vs, rfl, s, rs⟩ := rep_tup.mp r1
  refine ⟨a, rfl, ⟨vs, sqT_ext ext_del s⟩, q _ H1 e1 fun H' ps' e2 _ n => ⟨fun d hd => ?_, fun hn => ⟨vs, sqT_ext ext_del (sqT_ext e2 s), by rw [reps_len rs]; exact hn⟩⟩⟩
  obtain ⟨x, hx, rx⟩ := reps_get rs hd
  refine ⟨⟨vs, x, sqT_ext ext_del (sqT_ext e2 s), hx⟩, fun y H'' ⟨e, z⟩ => ?_⟩
  subst e
  have := z vs (sqT_ext ext_del (sqT_ext e2 s))
  rw [hx] at this
  cases this
  exact ⟨Ext.refl _, Rep.ext e2 _ _ rx⟩
/-- lo, lo + 1, .. -/
def rngD (lo : Int) (n : Nat) : List D := (List.range n).map fun i => .int (lo + ((i : Nat) : Int))
theorem wlk_rng {ps : Hid} {lo : Int} {n : Nat} {H1 : Hp} : Wlk T ps (rngD lo n) (Itr lo n) H1 := by
  refine fun H' ps' _ _ j => ⟨fun d hd => ?_, fun hj => ?_⟩
  · unfold rngD at hd
    have hj : j < n := by
      have := (List.getElem?_eq_some_iff.mp hd).1
      simpa using this
    rw [List.getElem?_map, List.getElem?_range hj] at hd
    cases hd
    exact ⟨hj, fun y H'' ⟨e1, e2⟩ => by subst e1; exact ⟨Ext.refl _, rep_int.mpr e2⟩⟩
  · show n ≤ j
    simpa [rngD] using hj
theorem jit_range1 {tg : Expr} {p : Pos} {n : Int} (hX : Fam T k X) (hm : T.mg "range" = none) (h : JE T X ρ a (.int n)) (hn : 0 ≤ n ∧ n < 2 ^ 62) (hg : ∀ i, Gl (X i) "range" := by intro _; rfl) (hs : ∀ i, starEach [a] (X i).env = [(false, eval a (X i).env)] := by intro _; rfl) :
    JIt T X ρ tg (.Call (.Name "range" p) [a] [] pos) (rngD 0 n.toNat) := by
  obtain ⟨ta, pa, xa⟩ := ja_cons h ja_nil (fun i => hs i)
  refine ⟨iRng1 ta, fun i => pi_range1 (hg i) (by rw [hX.mg i]; exact hm) (pa i) (hs i), fun ps σ H hh hE R q => xa ps σ H hh hE _ fun vs H1 e1 r1 => ?_⟩
  obtain ⟨v, rfl, r⟩ := reps_one r1
  exact ⟨n, by rw [rep_int.mp r], by omega, hn.2, q _ H1 e1 wlk_rng⟩
/-- for -/
theorem js_forW {m : Hid} {t iter : Expr} {body : List Stmt} {src : List D} {Φ : Pst} (hX : Fam T k X) (hp : ∀ i, PassesOwn (model (X i).prog (X i).w) (X i).A (X i).env (X i).xe) (h : JIt T X ρ t iter src) (I : Nat → En → Prop) (h0 : I 0 ρ)
    (step : ∀ n x ρ', src[n]? = some x → I n ρ' → JG T X ρ' t x fun ρ2 => JSs T X m ρ2 body { nx := I (n + 1), ct := I (n + 1), bk := Φ.nx, rt := Φ.rt }) (hd : ∀ ρ', I src.length ρ' → Φ.nx ρ')
    (hs : ∀ i x, foldedSetIterable iter (X i).env x = pure x := by intro _ _; rfl) : JS T X m ρ (.For t iter body [] pos) Φ := by
  obtain ⟨wi, p, y⟩ := h
  refine js_for hX hp p (fun ps σ H D' ho hE im => y ps σ H ho.toHidOk hE _ fun J H1 e1 wk => ?_) hs
  have ho1 := ho.monoE e1
  refine ⟨fun n m1 σ' H' => m1 = src.length - n ∧ n ≤ src.length ∧ ExtM m H1 H' ∧ ∃ ρ', EnvR T H' ps ρ' σ' ∧ I n ρ', ⟨_, rfl, Nat.zero_le _, (Ext.refl _).m, ρ, hE.ext e1, h0⟩, ?_⟩
  rintro n m1 σ' H' ⟨rfl, hn, e2, ρ', r2, i2⟩
  have e12 : ExtM m H H' := e1.m.trans e2
  by_cases hlt : n < src.length
  · have hd' := List.getElem?_eq_getElem hlt
    obtain ⟨go, yl⟩ := (wk H' ps (e2.del ho.sub) (ho1.mono e2).toHidOk n).1 src[n] hd'
    refine .inr ⟨go, fun σ' H' => ExtM m H1 H' ∧ ∃ ρ', EnvR T H' ps ρ' σ' ∧ I (n + 1) ρ', fun σ' H' ⟨q1, q2⟩ => ⟨src.length - (n + 1), by omega, rfl, hlt, q1, q2⟩, fun x H'' hy => ?_⟩
    obtain ⟨ey, rx⟩ := yl x H'' hy
    obtain ⟨tg, pg, yg⟩ := step n src[n] ρ' hd' i2
    intro i pins sh u Iv ru
    have e2y : ExtM m H1 H'' := e2.trans ey.m
    refine (pg i).run pins sh σ' _ _ u _ Iv ru (yg ps σ' _ _ _ (ho1.mono e2y).toHidOk (r2.ext ey) rx fun σ3 H3 ρ3 e3 r3 q3 => ?_)
    have e23 : ExtM m H1 H3 := e2y.trans e3.m
    have e13 : ExtM m H H3 := e1.m.trans e23
    refine q3 ps σ3 H3 _ (ho1.mono e23) r3 ⟨fun σ4 H4 ρ4 e4 r4 q4 => ⟨e23.trans e4, ρ4, r4, q4⟩, fun v H4 d σ4 ρ4 e4 r4 w q4 => im.rt v H4 d σ4 ρ4 (e13.trans e4) r4 (w.back e13) q4, fun σ4 H4 ρ4 e4 r4 q4 => im.nx σ4 H4 ρ4 (e13.trans e4) r4 q4, fun σ4 H4 ρ4 e4 r4 q4 => ⟨e23.trans e4, ρ4, r4, q4⟩⟩
  · have en : n = src.length := by omega
    subst en
    exact .inl ⟨(wk H' ps (e2.del ho.sub) (ho1.mono e2).toHidOk _).2 (Nat.le_refl _), im.nx σ' H' ρ' e12 r2 (hd ρ' i2)⟩
/-- what a comprehension's target does: from the frame with the block's names forgotten, with the item d, to the frame f d -/
def LcG (T : Tx) (g : TG) (own : List Nat) (ρ : En) (d : D) (ρ' : En) : Prop := ∀ (ps : Hid) (σ : L2.St) (H : Hp) (v : V) (Q : L2.St → Hp → Prop), HidOk T H ps → EnvR T H ps ρ σ → Rep T (del H ps) d v → (∀ σ', EnvR T H ps ρ' σ' → wipe σ' own = wipe σ own → Q σ' H) → g v (wipe σ own) H Q
theorem lcg_name {j : Nat} {d : D} : LcG T (gName j) [j] ρ d (ρ.set j (some (.d d))) := fun ps σ H v Q _ hE r q => by
  have hw : (wipe σ [j]).set j (some v) = σ.set j (some v) := by
    show ((σ.set j none).set j (some v)) = σ.set j (some v)
    rw [List.set_set]
  show Q ((wipe σ [j]).set j (some v)) H
  rw [hw]
  refine q _ (envR_set (x := some (.d d)) (v := some v) r j hE) ?_
  show (σ.set j (some v)).set j none = σ.set j none
  rw [List.set_set]
/-- a pair of names -/
theorem lcg_pair {i j : Nat} {d e : D} (hij : i ≠ j) : LcG T (gTup T.K 2 (gCons (gName i) (gCons (gName j) gNil))) [i, j] ρ (.tup [d, e]) ((ρ.set i (some (.d d))).set j (some (.d e))) := fun ps σ H v Q _ hE r q => by
  obtain ⟨a, vs, rfl, s, rs⟩ := rep_tup.mp r
  obtain ⟨v1, v2, rfl, r1, r2⟩ := reps_two rs
  refine ⟨a, [v1, v2], rfl, sqT_ext ext_del s, rfl, v1, [v2], rfl, ?_⟩
  show ∃ v r, [v2] = v :: r ∧ _
  refine ⟨v2, [], rfl, rfl, ?_⟩
  have hw : ((wipe σ [i, j]).set i (some v1)).set j (some v2) = (σ.set i (some v1)).set j (some v2) := by
    show (((σ.set j none).set i none).set i (some v1)).set j (some v2) = _
    rw [List.set_set, List.set_comm _ _ hij.symm, List.set_set]
  show Q (((wipe σ [i, j]).set i (some v1)).set j (some v2)) H
  rw [hw]
  refine q _ (envR_set (x := some (.d e)) (v := some v2) r2 j (envR_set (x := some (.d d)) (v := some v1) r1 i hE)) ?_
  show (((σ.set i (some v1)).set j (some v2)).set j none).set i none = (σ.set j none).set i none
  rw [List.set_set, List.set_comm _ _ hij, List.set_set, List.set_comm _ _ hij.symm]
/-- [elt for tg in src if test] -/
theorem lc_parts {tg elt iter : Expr} {ifs : List Expr} {scope : Scope} {own : List (Str × Nat)} {g : TG} {fr : D → En} {src : List D} {t : D → Bool} {f : D → D} (hX : Fam T k X) (hN : ∀ i, (X i).N.Nodup) (ok : ∀ i, BlkOk (X i).N (X i).env.scope scope own)
    (hi : JIt T X ρ tg iter src) (hl : src.length ≤ 1000000) (hg : ∀ i, PG (blkF X scope i) tg g) (hgr : ∀ d ∈ src, LcG T g (own.map (·.2)) ρ d (fr d))
    (ht : (ifs = [] ∧ ∀ d ∈ src, t d = true) ∨ ∃ c, ifs = [c] ∧ ∀ d ∈ src, JT T (blkF X scope) (fr d) c (t d))
    (he : ∀ d ∈ src, t d = true → JE T (blkF X scope) (fr d) elt (f d)) :
    ∃ wi tt te, (∀ i, PI (X i) tg iter wi) ∧ (∀ i (s : Shared) (H : Hp) (C : Addr) (cl : List (Str × Addr)) (fp : List Addr), PTs ((X i).blk s H scope (compEnvC scope cl C (X i).env) fp) ifs tt) ∧ (∀ i (s : Shared) (H : Hp) (C : Addr) (cl : List (Str × Addr)) (fp : List Addr), PE ((X i).blk s H scope (compEnvC scope cl C (X i).env) fp) elt te) ∧ AE T (tLc wi g tt te (own.map (·.2))) ρ (.lst ((src.filter t).map f)) := by
  obtain ⟨wi, pi, xi⟩ := hi
  let te : TE := canE (blkF X scope) elt
  let tt : TT := fun σ H Q => ∀ i pins s, Inv (blkF X scope i) pins σ H s → wpAny (model (blkF X scope i).prog (blkF X scope i).w) (blkF X scope i).A (forIn ifs true fun c r => if r = true then do let ok ← isTrue c (blkF X scope i).env (eval c (blkF X scope i).env); pure (ForInStep.yield ok) else pure (ForInStep.yield r)) (TP (blkF X scope i) pins σ Q) (blkF X scope i).xe s
  have hte : ∀ d ∈ src, t d = true → AE T te (fr d) (f d) := fun d hd ht' => (he d hd ht').can
  have htt : ∀ d ∈ src, AT T tt (fr d) (t d) := fun d hd ps σ H hh hE Q q i pins s I => by
    rcases ht with ⟨e, h⟩ | ⟨c, e, h⟩
    · subst e
      exact wpAny_tests_nil ⟨H, I, by rw [← h d hd]; exact q H (Ext.refl H)⟩
    · subst e
      obtain ⟨u, p, y⟩ := h d hd
      exact wpAny_tests_one ((p i).run pins s σ H Q I (y ps σ H hh hE Q q))
  refine ⟨wi, tt, te, pi, fun i s H C cl fp => ⟨fun pins s' σ H' Q I h => h (i, s, H, C, cl, fp) pins s' I⟩, fun i s H C cl fp => can_pe (X := blkF X scope) elt (i, s, H, C, cl, fp), fun ps σ H hh hE Q q => ?_⟩
  refine xi ps σ H hh hE _ fun J H1 e1 wk => ?_
  intro L hL
  have nL : ¬ ps L := (hh.mono e1).out hL
  have hL0 : H L = none := e1.free hL
  refine ⟨fun n m H' => m = src.length - n ∧ n ≤ src.length ∧ Ext H1 H' ∧ ∃ acc, H' L = some (.lst acc) ∧ Reps T (del H' (hid1 ps L)) (((src.take n).filter t).map f) acc, ⟨_, rfl, Nat.zero_le _, Ext.new hL, [], upd_same, reps_nil.mpr rfl⟩, ?_⟩
  rintro n m H' ⟨rfl, hn, e2, acc, eL, ra⟩
  have hkp := ((hh.mono e1).mono e2).hide eL
  have wkn := wk H' (hid1 ps L) (ext_hide (hid_one hL) e2) hkp
  by_cases hlt : n < src.length
  · have hd := List.getElem?_eq_getElem hlt
    generalize src[n] = d at hd
    obtain ⟨go, yl⟩ := (wkn n).1 d hd
    refine .inr ⟨go, fun H' => Ext H1 H' ∧ ∃ acc, H' L = some (.lst acc) ∧ Reps T (del H' (hid1 ps L)) (((src.take (n + 1)).filter t).map f) acc, fun H' ⟨q1, q2⟩ => ⟨src.length - (n + 1), by omega, rfl, hlt, q1, q2⟩, fun x H'' hy => ?_⟩
    obtain ⟨ey, rx⟩ := yl x H'' hy
    have mem : d ∈ src := List.mem_of_getElem? hd
    have tk : src.take (n + 1) = src.take n ++ [d] := by rw [List.take_add_one, hd]; rfl
    have e2y := e2.trans ey
    have e12 := e1.trans e2y
    have eLy := ey.at eL fun _ z => nomatch z
    have hk := (hh.mono e12).hide eLy
    refine hgr d mem (hid1 ps L) σ _ _ _ hk (hE.hide (hid_one hL0) e12) rx fun σ2 hE2 ew => ⟨ew, ?_⟩
    refine htt d mem (hid1 ps L) _ _ hk hE2 _ fun H3 e3 => ?_
    cases htd : t d with
    | true =>
      rw [if_pos rfl]
      refine hte d mem htd (hid1 ps L) _ H3 (hk.mono e3) (hE2.ext e3) _ fun y H4 e4 r4 => ?_
      have e34 := e3.trans e4
      have eL4 : H4 L = some (.lst acc) := e34.at eLy fun _ z => by cases z
      have la : acc.length ≤ src.length := by
        rw [reps_len ra, List.length_map]
        refine Nat.le_trans (List.length_filter_le _ _) ?_
        rw [List.length_take]
        exact Nat.min_le_right _ _
      refine ⟨acc, eL4, big_lt (Nat.le_trans la hl), ?_, acc ++ [y], upd_same, ?_⟩
      · intro b o hb
        rw [upd_ne (ne_of_none hb hL)]
        exact (e2y.trans e34) b o hb
      · rw [tk, List.filter_append, List.map_append]
        have one : ([d].filter t).map f = [f d] := by rw [List.filter_cons_of_pos htd]; rfl
        rw [one, del_upd (ps := hid1 ps L) (.inr rfl)]
        exact reps_app (Reps.ext ((ey.trans e34).del _) _ _ ra) (reps_cons.mpr ⟨y, [], rfl, r4, reps_nil.mpr rfl⟩)
    | false =>
      rw [if_neg Bool.false_ne_true]
      refine ⟨e2y.trans e3, acc, e3.at eLy (fun _ z => by cases z), ?_⟩
      rw [tk, List.filter_append, List.map_append]
      have one : ([d].filter t).map f = [] := by rw [List.filter_cons_of_neg (by rw [htd]; exact Bool.false_ne_true)]; rfl
      rw [one, List.append_nil]
      exact Reps.ext ((ey.trans e3).del _) _ _ ra
  · have en : n = src.length := by omega
    subst en
    rw [List.take_length] at ra
    exact .inl ⟨(wkn _).2 (Nat.le_refl _), q _ H' (e1.trans e2) (rep_lst.mpr ⟨L, acc, rfl, SqL.of (by rw [del_of nL]; exact eL), Reps.ext ext_unhide _ _ ra⟩)⟩
theorem je_lcW {tg elt iter : Expr} {ifs : List Expr} {scope : Scope} {own : List (Str × Nat)} {g : TG} {fr : D → En} {src : List D} {t : D → Bool} {f : D → D} (hX : Fam T k X) (hN : ∀ i, (X i).N.Nodup) (ok : ∀ i, BlkOk (X i).N (X i).env.scope scope own)
    (hi : JIt T X ρ tg iter src) (hl : src.length ≤ 1000000) (hg : ∀ i, PG (blkF X scope i) tg g) (hgr : ∀ d ∈ src, LcG T g (own.map (·.2)) ρ d (fr d))
    (ht : (ifs = [] ∧ ∀ d ∈ src, t d = true) ∨ ∃ c, ifs = [c] ∧ ∀ d ∈ src, JT T (blkF X scope) (fr d) c (t d))
    (he : ∀ d ∈ src, t d = true → JE T (blkF X scope) (fr d) elt (f d)) (hs : ∀ i x, foldedSetIterable iter (X i).env x = pure x := by intro _ _; rfl) :
    JE T X ρ (.ListComp elt [⟨tg, iter, ifs, 0⟩] scope pos) (.lst ((src.filter t).map f)) := by
  obtain ⟨wi, tt, te, h1, h2, h3, h4⟩ := lc_parts hX hN ok hi hl hg hgr ht he
  exact ⟨_, fun i => pe_lc (own := own) (hX.calm i) (hN i) (h1 i) (ok i) (fun s H C cl fp => hg (i, s, H, C, cl, fp)) (h2 i) (h3 i) (hs i), h4⟩
/-- x = [elt for tg in src if test] -/
theorem js_setLcW {m : Hid} {Φ : Pst} {y : Str} {py spos : Pos} (j : Nat) {tg elt iter : Expr} {ifs : List Expr} {scope : Scope} {own : List (Str × Nat)} {g : TG} {fr : D → En} {src : List D} {t : D → Bool} {f : D → D} (hX : Fam T k X) (hN : ∀ i, (X i).N.Nodup) (ok : ∀ i, BlkOk (X i).N (X i).env.scope scope own)
    (hi : JIt T X ρ tg iter src) (hl : src.length ≤ 1000000) (hg : ∀ i, PG (blkF X scope i) tg g) (hgr : ∀ d ∈ src, LcG T g (own.map (·.2)) ρ d (fr d))
    (ht : (ifs = [] ∧ ∀ d ∈ src, t d = true) ∨ ∃ c, ifs = [c] ∧ ∀ d ∈ src, JT T (blkF X scope) (fr d) c (t d))
    (he : ∀ d ∈ src, t d = true → JE T (blkF X scope) (fr d) elt (f d)) (q : Φ.nx (ρ.set j (some (.d (.lst ((src.filter t).map f)))))) (hs : ∀ i x, foldedSetIterable iter (X i).env x = pure x := by intro _ _; rfl) (hy : ∀ i, (X i).N[j]? = some y := by intro _; rfl) (hyl : ∀ i, (X i).env.scope.names.lookup y = some .local := by intro _; rfl)
    (hsw : ∀ i, swapsWith (.ListComp elt [⟨tg, iter, ifs, 0⟩] scope pos) (some (.Name y py)) spos.line (X i).env = pure true := by intro _; exact sw_true rfl rfl rfl rfl) :
    JS T X m ρ (.Assign [.Name y py] (.ListComp elt [⟨tg, iter, ifs, 0⟩] scope pos) spos) Φ := by
  obtain ⟨wi, tt, te, h1, h2, h3, h4⟩ := lc_parts hX hN ok hi hl hg hgr ht he
  exact JS.of (fun i => ps_setLc (own := own) (hX.calm i) (hN i) (hy i) (hyl i) (hsw i) (h1 i) (ok i) (fun s H C cl fp => hg (i, s, H, C, cl, fp)) (h2 i) (h3 i) (hs i)) fun ps σ H D' ho hE im => h4 ps σ H ho.toHidOk hE _ fun v H1 e1 r1 => im.nx _ H1 _ e1.m (envR_set (x := some (.d (.lst ((src.filter t).map f)))) (v := some v) r1 j (hE.ext e1)) q
/-- .. the target a name, no test -/
theorem js_setLcL {m : Hid} {Φ : Pst} {y : Str} {py spos : Pos} (j0 : Nat) {elt iter : Expr} {scope : Scope} {x' : Str} {px : Pos} (j : Nat) {src l : List D} (f : D → D) (hX : Fam T k X) (hN : ∀ i, (X i).N.Nodup)
    (hi : JIt T X ρ (.Name x' px) iter src) (hl : src.length ≤ 1000000 := by exact Nat.le_of_ble_eq_true rfl) (e : src.map f = l := by rfl)
    (he : ∀ d ∈ src, JE T (blkF X scope) (ρ.set j (some (.d d))) elt (f d)) (q : Φ.nx (ρ.set j0 (some (.d (.lst l))))) (ok : ∀ i, BlkOk (X i).N (X i).env.scope scope [(x', j)]) (hj : ∀ i, (X i).N[j]? = some x' := by intro _; rfl)
    (hx : ∀ i, L2.Loc (blkF X scope i).env.scope x' := by first | exact fun _ => Or.inl rfl | exact fun _ => Or.inr rfl) (hf : ∀ i, (blkF X scope i).fn x' = true ∨ (blkF X scope i).env.scope.names.lookup x' = some .local := by first | exact fun _ => .inr rfl | exact fun _ => .inl rfl) (hs : ∀ i x, foldedSetIterable iter (X i).env x = pure x := by intro _ _; rfl)
    (hy : ∀ i, (X i).N[j0]? = some y := by intro _; rfl) (hyl : ∀ i, (X i).env.scope.names.lookup y = some .local := by intro _; rfl)
    (hsw : ∀ i, swapsWith (.ListComp elt [⟨.Name x' px, iter, [], 0⟩] scope pos) (some (.Name y py)) spos.line (X i).env = pure true := by intro _; exact sw_true rfl rfl rfl rfl) :
    JS T X m ρ (.Assign [.Name y py] (.ListComp elt [⟨.Name x' px, iter, [], 0⟩] scope pos) spos) Φ := by
  have ef : (src.filter fun _ => true).map f = l := by rw [List.filter_eq_self.mpr (fun _ _ => rfl)]; exact e
  refine js_setLcW (own := [(x', j)]) (g := gName j) (fr := fun d => ρ.set j (some (.d d))) (t := fun _ => true) (f := f) j0 hX hN ok hi hl (fun i => pg_name (hN i.1) (hj i.1) (hx i) (hf i)) (fun _ _ => lcg_name) (.inl ⟨rfl, fun _ _ => rfl⟩) (fun d hd _ => he d hd) ?_ hs hy hyl hsw
  rw [ef]
  exact q
/-- .. over a list, the target a name -/
theorem je_lc {elt iter : Expr} {ifs : List Expr} {scope : Scope} {x' : Str} {px : Pos} (j : Nat) {src : List D} (t : D → Bool) (f : D → D) (hX : Fam T k X) (hN : ∀ i, (X i).N.Nodup)
    (hi : JIt T X ρ (.Name x' px) iter src) (hl : src.length ≤ 1000000)
    (ht : (ifs = [] ∧ ∀ d ∈ src, t d = true) ∨ ∃ c, ifs = [c] ∧ ∀ d ∈ src, JT T (blkF X scope) (ρ.set j (some (.d d))) c (t d))
    (he : ∀ d ∈ src, t d = true → JE T (blkF X scope) (ρ.set j (some (.d d))) elt (f d)) (ok : ∀ i, BlkOk (X i).N (X i).env.scope scope [(x', j)]) (hj : ∀ i, (X i).N[j]? = some x' := by intro _; rfl)
    (hx : ∀ i, L2.Loc (blkF X scope i).env.scope x' := by first | exact fun _ => Or.inl rfl | exact fun _ => Or.inr rfl) (hf : ∀ i, (blkF X scope i).fn x' = true ∨ (blkF X scope i).env.scope.names.lookup x' = some .local := by first | exact fun _ => .inr rfl | exact fun _ => .inl rfl) (hs : ∀ i x, foldedSetIterable iter (X i).env x = pure x := by intro _ _; rfl) :
    JE T X ρ (.ListComp elt [⟨.Name x' px, iter, ifs, 0⟩] scope pos) (.lst ((src.filter t).map f)) :=
  je_lcW (own := [(x', j)]) (g := gName j) (fr := fun d => ρ.set j (some (.d d))) hX hN ok hi hl (fun i => pg_name (hN i.1) (hj i.1) (hx i) (hf i)) (fun _ _ => lcg_name) ht he hs
theorem je_lc0 {elt iter : Expr} {scope : Scope} {x' : Str} {px : Pos} (j : Nat) {src : List D} (f : D → D) (hX : Fam T k X) (hN : ∀ i, (X i).N.Nodup)
    (hi : JIt T X ρ (.Name x' px) iter src) (hl : src.length ≤ 1000000)
    (he : ∀ d ∈ src, JE T (blkF X scope) (ρ.set j (some (.d d))) elt (f d)) (ok : ∀ i, BlkOk (X i).N (X i).env.scope scope [(x', j)]) (hj : ∀ i, (X i).N[j]? = some x' := by intro _; rfl)
    (hx : ∀ i, L2.Loc (blkF X scope i).env.scope x' := by first | exact fun _ => Or.inl rfl | exact fun _ => Or.inr rfl) (hf : ∀ i, (blkF X scope i).fn x' = true ∨ (blkF X scope i).env.scope.names.lookup x' = some .local := by first | exact fun _ => .inr rfl | exact fun _ => .inl rfl) (hs : ∀ i x, foldedSetIterable iter (X i).env x = pure x := by intro _ _; rfl) :
    JE T X ρ (.ListComp elt [⟨.Name x' px, iter, [], 0⟩] scope pos) (.lst (src.map f)) := by
  have := je_lc (scope := scope) (pos := pos) j (fun _ => true) f hX hN hi hl (.inl ⟨rfl, fun _ _ => rfl⟩) (fun d hd _ => he d hd) ok hj hx hf hs
  rwa [List.filter_eq_self.mpr (fun _ _ => rfl)] at this
theorem je_lcL {elt iter : Expr} {scope : Scope} {x' : Str} {px : Pos} (j : Nat) {src l : List D} (f : D → D) (hX : Fam T k X) (hN : ∀ i, (X i).N.Nodup)
    (hi : JIt T X ρ (.Name x' px) iter src) (hl : src.length ≤ 1000000 := by exact Nat.le_of_ble_eq_true rfl) (e : src.map f = l := by rfl)
    (he : ∀ d ∈ src, JE T (blkF X scope) (ρ.set j (some (.d d))) elt (f d)) (ok : ∀ i, BlkOk (X i).N (X i).env.scope scope [(x', j)]) (hj : ∀ i, (X i).N[j]? = some x' := by intro _; rfl)
    (hx : ∀ i, L2.Loc (blkF X scope i).env.scope x' := by first | exact fun _ => Or.inl rfl | exact fun _ => Or.inr rfl) (hf : ∀ i, (blkF X scope i).fn x' = true ∨ (blkF X scope i).env.scope.names.lookup x' = some .local := by first | exact fun _ => .inr rfl | exact fun _ => .inl rfl) (hs : ∀ i x, foldedSetIterable iter (X i).env x = pure x := by intro _ _; rfl) :
    JE T X ρ (.ListComp elt [⟨.Name x' px, iter, [], 0⟩] scope pos) (.lst l) := by
  subst e
  exact je_lc0 j f hX hN hi hl he ok hj hx hf hs
end
end Fr
namespace Fr
open PySem PySem.Spec PyProof.Rows L2 StX
section
variable {T : Tx} {ι : Type} {X : ι → Cx} {m : Hid} {ρ : En} {k : Nat} {a b c e : Expr} {pos : Pos} {x y d : D} {Φ : Pst}
/-! ### chains of two comparisons -/
theorem ae_chain {p q : Int → Int → Bool} {ta tb tc : TE} {i j l : Int} (xa : AE T ta ρ (.int i)) (xb : AE T tb ρ (.int j)) (xc : AE T tc ρ (.int l)) : AE T (tChain (rI0 fun i j => .bl (p i j)) (rI0 fun i j => .bl (q i j)) ta tb tc) ρ (.bl (p i j && q j l)) := fun ps σ H ho hE Q k =>
  xa ps σ H ho hE _ fun v H1 e1 r1 => xb ps σ H1 (ho.mono e1) (hE.ext e1) _ fun u H2 e2 r2 => ⟨i, j, rep_int.mp r1, rep_int.mp r2, p i j, rfl, by
    have e12 := e1.trans e2
    cases h : p i j with
    | false =>
      rw [if_neg Bool.false_ne_true]
      exact k _ H2 e12 (rep_bl.mpr (by rw [h, Bool.false_and]))
    | true =>
      rw [if_pos rfl]
      exact xc ps σ H2 (ho.mono e12) (hE.ext e12) _ fun w H3 e3 r3 => ⟨j, l, rep_int.mp r2, rep_int.mp r3, k _ H3 (e12.trans e3) (rep_bl.mpr (by rw [h, Bool.true_and]))⟩⟩
theorem je_chain {op op' : CmpOp} {p q : Int → Int → Bool} {i j l : Int} (ho : ∀ i, OpR (X i) (compareOp op) (rI0 fun i j => .bl (p i j))) (ho' : ∀ i, OpR (X i) (compareOp op') (rI0 fun i j => .bl (q i j))) (ha : JE T X ρ a (.int i)) (hb : JE T X ρ b (.int j)) (hc : JE T X ρ c (.int l))
    (hm : lastMarks [op, op'] [b, c] = false := by with_unfolding_all rfl) : JE T X ρ (.Compare a [op, op'] [b, c] pos) (.bl (p i j && q j l)) := by
  obtain ⟨ta, pa, xa⟩ := ha
  obtain ⟨tb, pb, xb⟩ := hb
  obtain ⟨tc, pc, xc⟩ := hc
  exact ⟨_, fun i => pe_chain (ho i) (ho' i) (pa i) (pb i) (pc i) hm, ae_chain xa xb xc⟩
theorem jt_chain {op op' : CmpOp} {p q : Int → Int → Bool} {i j l : Int} (ho : ∀ i, OpR (X i) (compareOp op) (rI0 fun i j => .bl (p i j))) (ho' : ∀ i, OpR (X i) (compareOp op') (rI0 fun i j => .bl (q i j))) (ha : JE T X ρ a (.int i)) (hb : JE T X ρ b (.int j)) (hc : JE T X ρ c (.int l))
    (hm : lastMarks [op, op'] [b, c] = false := by with_unfolding_all rfl) : JT T X ρ (.Compare a [op, op'] [b, c] pos) (p i j && q j l) := by
  obtain ⟨ta, pa, xa⟩ := ha
  obtain ⟨tb, pb, xb⟩ := hb
  obtain ⟨tc, pc, xc⟩ := hc
  exact ⟨_, fun i => pt_chain (ho i) (ho' i) (pa i) (pb i) (pc i) hm, fun ps σ H ho hE Q q => ae_chain xa xb xc ps σ H ho hE _ fun v H1 e1 r1 => ⟨_, rep_bl.mp r1, q H1 e1⟩⟩
theorem je_leLe {i j l : Int} (ha : JE T X ρ a (.int i)) (hb : JE T X ρ b (.int j)) (hc : JE T X ρ c (.int l)) (hm : lastMarks [.LtE, .LtE] [b, c] = false := by with_unfolding_all rfl) : JE T X ρ (.Compare a [.LtE, .LtE] [b, c] pos) (.bl (decide (i ≤ j) && decide (j ≤ l))) := je_chain (p := fun i j => decide (i ≤ j)) (q := fun i j => decide (i ≤ j)) (fun _ => op_le) (fun _ => op_le) ha hb hc hm
theorem je_leLt {i j l : Int} (ha : JE T X ρ a (.int i)) (hb : JE T X ρ b (.int j)) (hc : JE T X ρ c (.int l)) (hm : lastMarks [.LtE, .Lt] [b, c] = false := by with_unfolding_all rfl) : JE T X ρ (.Compare a [.LtE, .Lt] [b, c] pos) (.bl (decide (i ≤ j) && decide (j < l))) := je_chain (p := fun i j => decide (i ≤ j)) (q := fun i j => decide (i < j)) (fun _ => op_le) (fun _ => op_lt) ha hb hc hm
theorem je_ltLt {i j l : Int} (ha : JE T X ρ a (.int i)) (hb : JE T X ρ b (.int j)) (hc : JE T X ρ c (.int l)) (hm : lastMarks [.Lt, .Lt] [b, c] = false := by with_unfolding_all rfl) : JE T X ρ (.Compare a [.Lt, .Lt] [b, c] pos) (.bl (decide (i < j) && decide (j < l))) := je_chain (p := fun i j => decide (i < j)) (q := fun i j => decide (i < j)) (fun _ => op_lt) (fun _ => op_lt) ha hb hc hm
theorem jt_leLe {i j l : Int} (ha : JE T X ρ a (.int i)) (hb : JE T X ρ b (.int j)) (hc : JE T X ρ c (.int l)) (hm : lastMarks [.LtE, .LtE] [b, c] = false := by with_unfolding_all rfl) : JT T X ρ (.Compare a [.LtE, .LtE] [b, c] pos) (decide (i ≤ j) && decide (j ≤ l)) := jt_chain (p := fun i j => decide (i ≤ j)) (q := fun i j => decide (i ≤ j)) (fun _ => op_le) (fun _ => op_le) ha hb hc hm
theorem jt_leLt {i j l : Int} (ha : JE T X ρ a (.int i)) (hb : JE T X ρ b (.int j)) (hc : JE T X ρ c (.int l)) (hm : lastMarks [.LtE, .Lt] [b, c] = false := by with_unfolding_all rfl) : JT T X ρ (.Compare a [.LtE, .Lt] [b, c] pos) (decide (i ≤ j) && decide (j < l)) := jt_chain (p := fun i j => decide (i ≤ j)) (q := fun i j => decide (i < j)) (fun _ => op_le) (fun _ => op_lt) ha hb hc hm
/-! ### gcd, max, min -/
theorem je_gcd {x' : Str} {p : Pos} {i j : Int} (hX : Fam T k X) (hm : T.mg x' = some (.builtin "math.gcd")) (ha : JE T X ρ a (.int i)) (hb : JE T X ρ b (.int j)) (hg : ∀ i, Gl (X i) x' := by intro _; rfl) (hdb : (x' == ("__debug__" : Str)) = false := by decide)
    (he : ∀ i, starEach [a, b] (X i).env = (false, eval a (X i).env) :: starEach [b] (X i).env := by intro _; rfl) (he2 : ∀ i, starEach [b] (X i).env = (false, eval b (X i).env) :: starEach [] (X i).env := by intro _; rfl) (hpl : ∀ i, (backTo pos (starEach [b] (X i).env)).any (·.1) = false := by intro _; rfl) :
    JE T X ρ (.Call (.Name x' p) [a, b] [] pos) (.int ((Nat.gcd i.natAbs j.natAbs : Nat) : Int)) := by
  obtain ⟨ta, pa, xa⟩ := ja_cons ha (ja_cons hb ja_nil he2) he
  exact ⟨_, fun i => pe_callBfun (id := "math.gcd") cr_gcd (hg i) (by rw [hX.mg i]; exact hm) (pa i) hdb (he i) (hpl i), fun ps σ H ho hE Q q => xa ps σ H ho hE _ fun vs H1 e1 r1 => by
    obtain ⟨v, u, rfl, h1, h2⟩ := reps_two r1
    exact ⟨i, j, by rw [rep_int.mp h1, rep_int.mp h2], q _ H1 e1 (rep_int.mpr rfl)⟩⟩
theorem je_max2 {p : Pos} {i j : Int} (hX : Fam T k X) (hm : T.mg "max" = none) (ha : JA T X ρ [a, b] [.int i, .int j]) (hg : ∀ i, Gl (X i) "max" := by intro _; rfl)
    (he : ∀ i, starEach [a, b] (X i).env = (false, eval a (X i).env) :: starEach [b] (X i).env := by intro _; rfl) (hpl : ∀ i, (backTo pos (starEach [b] (X i).env)).any (·.1) = false := by intro _; rfl) :
    JE T X ρ (.Call (.Name "max" p) [a, b] [] pos) (.int (if j > i then j else i)) :=
  je_callB (id := "max") hX hm (fun i => call_max2 (hX.calm i)) (by decide +kernel) ha (fun ps H vs Q _ h q => by
    obtain ⟨v, u, rfl, h1, h2⟩ := reps_two h
    exact ⟨i, j, by rw [rep_int.mp h1, rep_int.mp h2], q _ H (Ext.refl H) (rep_int.mpr rfl)⟩) hg (he := he) (hpl := hpl)
theorem je_min2 {p : Pos} {i j : Int} (hX : Fam T k X) (hm : T.mg "min" = none) (ha : JA T X ρ [a, b] [.int i, .int j]) (hg : ∀ i, Gl (X i) "min" := by intro _; rfl)
    (he : ∀ i, starEach [a, b] (X i).env = (false, eval a (X i).env) :: starEach [b] (X i).env := by intro _; rfl) (hpl : ∀ i, (backTo pos (starEach [b] (X i).env)).any (·.1) = false := by intro _; rfl) :
    JE T X ρ (.Call (.Name "min" p) [a, b] [] pos) (.int (if j < i then j else i)) :=
  je_callB (id := "min") hX hm (fun i => call_min2 (hX.calm i)) (by decide +kernel) ha (fun ps H vs Q _ h q => by
    obtain ⟨v, u, rfl, h1, h2⟩ := reps_two h
    exact ⟨i, j, by rw [rep_int.mp h1, rep_int.mp h2], q _ H (Ext.refl H) (rep_int.mpr rfl)⟩) hg (he := he) (hpl := hpl)
def max3 (i j l : Int) : Int := if (if i < j then j else i) < l then l else (if i < j then j else i)
theorem je_max3 {p : Pos} {i j l : Int} (hX : Fam T k X) (hm : T.mg "max" = none) (ha : JA T X ρ [a, b, c] [.int i, .int j, .int l]) (hg : ∀ i, Gl (X i) "max" := by intro _; rfl)
    (he : ∀ i, starEach [a, b, c] (X i).env = (false, eval a (X i).env) :: starEach [b, c] (X i).env := by intro _; rfl) (hpl : ∀ i, (backTo pos (starEach [b, c] (X i).env)).any (·.1) = false := by intro _; rfl) :
    JE T X ρ (.Call (.Name "max" p) [a, b, c] [] pos) (.int (max3 i j l)) :=
  je_callB (id := "max") (r := rNuC3 nuMax3) hX hm (fun i => call_max3Nu (hX.calm i)) (by decide +kernel) ha (fun ps H vs Q _ h q => by
    obtain ⟨v, r, rfl, h1, h⟩ := reps_cons.mp h
    obtain ⟨u, w, rfl, h2, h3⟩ := reps_two h
    refine ⟨.int i, .int j, .int l, .int (max3 i j l), by rw [rep_int.mp h1, rep_int.mp h2, rep_int.mp h3], ?_, q _ H (Ext.refl H) (rep_int.mpr rfl)⟩
    unfold max3
    by_cases h1 : i < j <;> by_cases h2 : (if i < j then j else i) < l <;> simp only [h1, if_true, if_false] at h2 ⊢ <;> simp [nuMax3, nuMax2, nuLt, nuCB, h1, h2]) hg (he := he) (hpl := hpl)
/-! ### *e in a display -/
theorem ja_star {es : List Expr} {l l2 : List D} {p : Pos} (hX : Fam T k X) (h : JE T X ρ e (.lst l)) (t : JA T X ρ es l2) (hs : ∀ i, starEach (.Starred e p :: es) (X i).env = (true, eval e (X i).env) :: starEach es (X i).env := by intro _; rfl) : JA T X ρ (.Starred e p :: es) (l ++ l2) := by
  obtain ⟨te, pe, x⟩ := h
  obtain ⟨ta, r, y⟩ := t
  refine ⟨tStar T.K te ta, fun i => by rw [← hX.K i]; exact pa_star (pe i) (r i) (hs i), fun ps σ H ho hE Q q => x ps σ H ho hE _ fun v H1 e1 r1 => ?_⟩
  obtain ⟨p, vs, rfl, s, rs⟩ := rep_lst.mp r1
  exact ⟨p, vs, rfl, .inr (sqL_ext ext_del s), y ps σ H1 (ho.mono e1) (hE.ext e1) _ fun us H2 e2 r2 => q _ H2 (e1.trans e2) (reps_app (Reps.ext (e2.del ps) _ _ rs) r2)⟩
/-! ### an own list: read -/
theorem rel_cl {ps : Hid} {H : Hp} {L : Addr} {l : List D} {v : V} (h : RelS T H ps (some (.cl L l)) (some v)) : v = .ref L ∧ ClR T H ps L l := h
theorem je_clIx {b : Expr} {x' : Str} {p : Pos} (j n : Nat) {L : Addr} {l : List D} {i : Int} (hX : Fam T k X) (hb : JE T X ρ b (.int i)) (hi : i = (n : Int)) (hd : l[n]? = some d) (hs : PlainIx b := by exact fun _ _ => rfl) (hr : ρ[j]? = some (some (.cl L l)) := by rfl) (hN : ∀ i, (X i).N[j]? = some x' := by intro _; rfl)
    (hv : ∀ i, Vis (X i).env.scope x' := by first | exact fun _ => Or.inl rfl | exact fun _ => Or.inr (Or.inl rfl) | exact fun _ => Or.inr (Or.inr rfl)) (hdb : (x' == ("__debug__" : Str)) = false := by decide) (hcd : (x' == ("__classdict__" : Str)) = false := by decide) :
    JE T X ρ (.Subscript (.Name x' p) b pos) d := by
  obtain ⟨tb, pb, xb⟩ := hb
  refine ⟨tOp (rIxL T.K) (tVar j) tb, fun i => pe_ix (IxR.cast (f := rIxL) (hX.K i) ix_list) (pe_var (hN i) (hv i) hdb hcd) (pb i) hs, fun ps σ H ho hE Q q => ?_⟩
  obtain ⟨v, h1, h2⟩ := envR_get hE hr
  obtain ⟨rfl, hp, vs, hL, hr'⟩ := rel_cl h2
  refine ⟨_, h1, xb ps σ H ho hE _ fun u H1 e1 r1 => ?_⟩
  obtain ⟨w, e2, r2⟩ := reps_get hr' hd
  exact ⟨L, vs, i, w, rfl, rep_int.mp r1, SqL.of (e1.at hL fun _ z => by cases z), by rw [hi]; exact atI_nat e2, q w H1 e1 (Rep.ext (e1.del ps) _ _ r2)⟩
/-- x[-1] -/
theorem je_clLast {b : Expr} {x' : Str} {p : Pos} (j : Nat) {L : Addr} {l : List D} (hX : Fam T k X) (hb : JE T X ρ b (.int (-1))) (hs : PlainIx b := by exact fun _ _ => rfl) (hr : ρ[j]? = some (some (.cl L (l ++ [d]))) := by rfl) (hN : ∀ i, (X i).N[j]? = some x' := by intro _; rfl)
    (hv : ∀ i, Vis (X i).env.scope x' := by first | exact fun _ => Or.inl rfl | exact fun _ => Or.inr (Or.inl rfl) | exact fun _ => Or.inr (Or.inr rfl)) (hdb : (x' == ("__debug__" : Str)) = false := by decide) (hcd : (x' == ("__classdict__" : Str)) = false := by decide) :
    JE T X ρ (.Subscript (.Name x' p) b pos) d := by
  obtain ⟨tb, pb, xb⟩ := hb
  refine ⟨tOp (rIxL T.K) (tVar j) tb, fun i => pe_ix (IxR.cast (f := rIxL) (hX.K i) ix_list) (pe_var (hN i) (hv i) hdb hcd) (pb i) hs, fun ps σ H ho hE Q q => ?_⟩
  obtain ⟨v, h1, h2⟩ := envR_get hE hr
  obtain ⟨rfl, hp, vs, hL, hr'⟩ := rel_cl h2
  refine ⟨_, h1, xb ps σ H ho hE _ fun u H1 e1 r1 => ?_⟩
  have hl : vs.length = l.length + 1 := by rw [reps_len hr', List.length_append, List.length_singleton]
  obtain ⟨w, e2, r2⟩ := reps_get (i := l.length) (d := d) hr' (by simp)
  have ev : vs = vs.take l.length ++ [w] := by
    have h3 := List.drop_eq_getElem_cons (l := vs) (i := l.length) (by omega)
    have h4 : vs[l.length] = w := (List.getElem?_eq_some_iff.mp e2).2
    have h5 : vs.drop (l.length + 1) = [] := List.drop_eq_nil_of_le (by omega)
    rw [h4, h5] at h3
    rw [← h3, List.take_append_drop]
  exact ⟨L, vs, -1, w, rfl, rep_int.mp r1, SqL.of (e1.at hL fun _ z => by cases z), by rw [ev]; exact atI_last _ _, q w H1 e1 (Rep.ext (e1.del ps) _ _ r2)⟩
theorem je_clLen {x' : Str} {p p2 : Pos} (j : Nat) {L : Addr} {l : List D} (hX : Fam T k X) (hm : T.mg "len" = none) (hr : ρ[j]? = some (some (.cl L l)) := by rfl) (hN : ∀ i, (X i).N[j]? = some x' := by intro _; rfl)
    (hv : ∀ i, Vis (X i).env.scope x' := by first | exact fun _ => Or.inl rfl | exact fun _ => Or.inr (Or.inl rfl) | exact fun _ => Or.inr (Or.inr rfl)) (hdb : (x' == ("__debug__" : Str)) = false := by decide) (hcd : (x' == ("__classdict__" : Str)) = false := by decide)
    (hg : ∀ i, Gl (X i) "len" := by intro _; rfl) (he : ∀ i, starEach [.Name x' p2] (X i).env = (false, eval (.Name x' p2) (X i).env) :: starEach [] (X i).env := by intro _; rfl) : JE T X ρ (.Call (.Name "len" p) [.Name x' p2] [] pos) (.int (l.length : Int)) := by
  refine ⟨_, fun i => pe_callB (id := "len") (r := fun xs H Q => ∃ p ys, xs = [.ref p] ∧ (SqL T.K H p ys ∨ SqT T.K H p ys) ∧ Q (.int ys.length) H) (by rw [← hX.K i]; exact call_len_seq) (hg i) (by rw [hX.mg i]; exact hm) PySem.boot_len (pa_cons (pe_var (hN i) (hv i) hdb hcd) pa_nil (he i)) (by decide) (by decide) (he i) rfl, fun ps σ H ho hE Q q => ?_⟩
  obtain ⟨v, h1, h2⟩ := envR_get hE hr
  obtain ⟨rfl, hp, vs, hL, hr'⟩ := rel_cl h2
  exact ⟨_, h1, L, vs, rfl, .inl (SqL.of hL), q _ H (Ext.refl H) (rep_int.mpr (by rw [reps_len hr']))⟩
/-! ### an own list: written -/
theorem extM_upd {H : Hp} {L : Addr} {vs ws : List V} (hL : H L = some (.lst vs)) (hm : m L) : ExtM m H (upd H L (.lst ws)) := fun a o e => by
  by_cases h : a = L
  · subst h
    rw [hL] at e
    cases e
    exact ⟨_, upd_same, .inr ⟨hm, fun _ z => by cases z⟩⟩
  · exact ⟨o, by rw [upd_ne h]; exact e, .inl (.inl rfl)⟩
theorem rel_upd {ps : Hid} {H : Hp} {L : Addr} {l : List D} {vs : List V} (hp : ps L) (r : Reps T (del H ps) l vs) : RelS T (upd H L (.lst vs)) ps (some (.cl L l)) (some (.ref L)) :=
  ⟨rfl, hp, vs, upd_same, by rw [del_upd hp]; exact r⟩
theorem set_same {α : Type} : ∀ {l : List α} {i : Nat} {x : α}, l[i]? = some x → l.set i x = l
  | [], _, _, _ => rfl
  | a :: l, 0, x, h => by
    simp at h
    subst h
    rfl
  | a :: l, i + 1, x, h => by
    rw [List.set_cons_succ, set_same (by simpa using h)]
/-- x.append(e) -/
theorem js_append {x' : Str} {p p2 p3 : Pos} (j : Nat) {L : Addr} {l : List D} (hX : Fam T k X) (he : JE T X ρ e d) (hL : l.length ≤ 1000000) (hm : m L) (hr : ρ[j]? = some (some (.cl L l))) (hpl : plainE (ρ.set j none) = true) (q : Φ.nx (ρ.set j (some (.cl L (l ++ [d]))))) (hN : ∀ i, (X i).N[j]? = some x' := by intro _; rfl)
    (hv : ∀ i, Vis (X i).env.scope x' := by first | exact fun _ => Or.inl rfl | exact fun _ => Or.inr (Or.inl rfl) | exact fun _ => Or.inr (Or.inr rfl)) (hdb : (x' == ("__debug__" : Str)) = false := by decide) (hcd : (x' == ("__classdict__" : Str)) = false := by decide)
    (hbase : ∀ i, attributeBase (.Name x' p) "append" (X i).env (eval (.Name x' p) (X i).env) = eval (.Name x' p) (X i).env := by intro _; rfl)
    (hfew : ∀ i, ((backTo p3 (starEach [e] (X i).env)).all (fun x => !x.1) && (backToKw p3 (keywordEach [] (X i).env)).all (fun x => x.1.isSome) && decide (([e] : List Expr).length + ([] : List Keyword).length + (if ([] : List Keyword).isEmpty then 0 else 1) < 30)) = true := by intro _; rfl)
    (hline : (p2.endLine == p3.line) = true := by rfl) (hst : ∀ i, starEach [e] (X i).env = (false, eval e (X i).env) :: starEach [] (X i).env := by intro _; rfl) (hs : ∀ i, swapsWith (.Call (.Attribute (.Name x' p) "append" p2) [e] [] p3) none pos.line (X i).env = pure false := by intro _; rfl) :
    JS T X m ρ (.Expr (.Call (.Attribute (.Name x' p) "append" p2) [e] [] p3) pos) Φ := by
  obtain ⟨te, pe, xe⟩ := he
  refine JS.of (ts := tDrop (tBM T.K "list" rAppend (tVar j) (tCons te tNil))) (fun i => ps_expr (by rw [← hX.K i]; exact pe_bm PySem.F.plainAttrs_list PySem.F.slot_list_append PySem.F.type_list_append mt_append (pe_var (hN i) (hv i) hdb hcd) (pa_cons (pe i) pa_nil (hst i)) (hbase i) (hfew i) hline (hst i) rfl) (hs i)) fun ps σ H D' ho hE im => ?_
  obtain ⟨v, h1, h2⟩ := envR_get hE hr
  obtain ⟨rfl, hp, vs, hL', hr'⟩ := rel_cl h2
  refine ⟨_, h1, .inl ⟨rfl, vs, SqL.of hL'⟩, xe ps σ H ho.toHidOk hE _ fun u H1 e1 r1 => ?_⟩
  have hL1 : H1 L = some (.lst vs) := e1.at hL' fun _ z => by cases z
  have e2 : ExtM m H1 (upd H1 L (.lst (vs ++ [u]))) := extM_upd hL1 hm
  refine ⟨L, vs, u, rfl, rfl, hL1, by rw [reps_len hr']; exact big_lt hL, im.nx _ _ _ (e1.m.trans e2) ?_ q⟩
  have hE1 : EnvR T H1 ps ρ σ := hE.ext e1
  have := EnvR.mut e2 ho.sub (rel_upd (l := l ++ [d]) (vs := vs ++ [u]) hp (reps_app (Reps.ext (e1.del ps) _ _ hr') (reps_cons.mpr ⟨u, [], rfl, r1, reps_nil.mpr rfl⟩))) j hE1 hpl
  rwa [set_same h1] at this
end
end Fr
namespace Fr
open PySem PySem.Spec PyProof.Rows L2 StX
/-! ### own cells are opened -/
abbrev orH (m n : Hid) : Hid := fun a => m a ∨ n a
inductive CloX (n : Hid) : Sl → Sl → Prop
  | d (d : D) : CloX n (.d d) (.d d)
  | raw (v : V) : CloX n (.raw v) (.raw v)
  | cl {L : Addr} (l : List D) (h : n L) : CloX n (.cl L l) (.d (.lst l))
  | new (l : List D) : CloX n (.new l) (.new l)
  | ret {L : Addr} (d : D) (h : n L) : CloX n (.ret L d) (.d d)
inductive CloO (n : Hid) : Option Sl → Option Sl → Prop
  | no (x : Option Sl) : CloO n x none
  | so {x y : Sl} (h : CloX n x y) : CloO n (some x) (some y)
abbrev CloE (n : Hid) : En → En → Prop := Paired (CloO n)
def OpenPst (n : Hid) (Φ : Pst) : Pst := { nx := fun ρ' => ∃ ρ2, CloE n ρ' ρ2 ∧ Φ.nx ρ2, rt := fun x _ => ∃ y, CloX n x y ∧ ∀ ρ2, Φ.rt y ρ2, bk := fun ρ' => ∃ ρ2, CloE n ρ' ρ2 ∧ Φ.bk ρ2, ct := fun ρ' => ∃ ρ2, CloE n ρ' ρ2 ∧ Φ.ct ρ2 }
section
variable {T : Tx} {ι : Type} {X : ι → Cx} {m n : Hid} {ρ : En} {k : Nat} {a b c e : Expr} {pos : Pos} {x y d : D} {Φ : Pst} {rest : List Stmt}
theorem rel_clo {ps : Hid} {H' : Hp} (hn : ∀ a, n a → ¬ ps a) {x y : Option Sl} {v : Option V} (c : CloO n x y) (h : RelS T H' (orH ps n) x v) : RelS T H' ps y v := by
  cases c with
  | no => exact True.intro
  | so c =>
    cases c with
    | d d =>
      obtain ⟨w, rfl⟩ := relS_some h
      exact Rep.ext ext_unhide _ _ h
    | raw w =>
      obtain ⟨w', rfl⟩ := relS_some h
      exact h
    | @cl L l hL =>
      obtain ⟨w, rfl⟩ := relS_some h
      obtain ⟨rfl, _, vs, hv, r⟩ := rel_cl h
      exact rep_lst.mpr ⟨L, vs, rfl, SqL.of (by rw [del_of (hn L hL)]; exact hv), Reps.ext ext_unhide _ _ r⟩
    | new l =>
      obtain ⟨w, rfl⟩ := relS_some h
      exact h.elim
    | ret d _ =>
      obtain ⟨w, rfl⟩ := relS_some h
      exact h.elim
theorem env_clo {ps : Hid} {H' : Hp} (hn : ∀ a, n a → ¬ ps a) : ∀ {ρ ρ' : En} {σ : L2.St}, CloE n ρ ρ' → EnvR T H' (orH ps n) ρ σ → EnvR T H' ps ρ' σ
  | _, _, _, .nil, .nil => .nil
  | _, _, _, .cons c t, .cons h u => .cons (rel_clo hn c h) (env_clo hn t u)
theorem env_none {ps : Hid} {H : Hp} : ∀ {σ : L2.St}, EnvR T H ps (σ.map fun _ => none) σ
  | [] => .nil
  | _ :: _ => .cons True.intro env_none
theorem hm_open {ps : Hid} {H H2 : Hp} (ho : HM T m H ps) (e : ExtM m H H2) (h : ∀ a, n a → H2 a ≠ none) : HM T (orH m n) H2 (orH ps n) :=
  ⟨⟨fun a z w => z.elim (fun z => (ho.mono e).there a z w) fun z => h a z w, (ho.mono e).tab⟩, fun a z => z.imp (ho.sub a) id⟩
theorem imp_open {ps : Hid} {H H2 : Hp} {D' : Ends} (ho : HM T m H ps) (e : ExtM m H H2) (fr : ∀ a, n a → H a = none) (im : Imp T m ps H Φ D') : Imp T (orH m n) (orH ps n) H2 (OpenPst n Φ) D' := by
  have hn : ∀ a, n a → ¬ ps a := fun a z w => ho.there a w (fr a z)
  have ee : ∀ {H'}, ExtM (orH m n) H2 H' → ExtM m H H' := fun e' => ((e.sub fun _ z => .inl z).trans e').drop fr
  refine ⟨fun σ' H' ρ' e' r ⟨ρ2, c, q⟩ => im.nx σ' H' ρ2 (ee e') (env_clo hn c r) q, fun v H' x σ' ρ' e' r w ⟨y, c, q⟩ => ?_, fun σ' H' ρ' e' r ⟨ρ2, c, q⟩ => im.bk σ' H' ρ2 (ee e') (env_clo hn c r) q, fun σ' H' ρ' e' r ⟨ρ2, c, q⟩ => im.ct σ' H' ρ2 (ee e') (env_clo hn c r) q⟩
  refine im.rt v H' y σ' _ (ee e') env_none ?_ (q _)
  cases c with
  | d d => exact Rep.ext ext_unhide _ _ w
  | @ret L d hL =>
    refine Rep.ext (Ext.sub fun a o q => ?_) _ _ w
    obtain ⟨q, np⟩ := del_in q
    rw [del_of fun z => np ⟨.inl z, fun e => hn L hL (e ▸ z)⟩]
    exact q
  | raw u => exact w
  | @cl L l hL => exact rel_clo (x := some (.cl L l)) (y := some (.d (.lst l))) (v := some v) hn (.so (.cl l hL)) w
  | new l =>
    obtain ⟨L, vs, e1, e2, e3, e4⟩ := w
    refine ⟨L, vs, e1, e.free e2, e3, Reps.ext (Ext.sub fun a o q => ?_) _ _ e4⟩
    obtain ⟨q, np⟩ := del_in q
    rw [del_of fun z => np (z.elim (fun z => .inl (.inl z)) .inr)]
    exact q
abbrev one (L : Addr) : Hid := fun a => a = L
theorem env_open {ps : Hid} {H H1 : Hp} {σ : L2.St} {L : Addr} {l : List D} {vs : List V} (hE : EnvR T H ps ρ σ) (e : Ext H H1) (hL : H1 L = none) (r : Reps T (del H1 ps) l vs) : EnvR T (upd H1 L (.lst vs)) (orH ps (one L)) ρ σ ∧ RelS T (upd H1 L (.lst vs)) (orH ps (one L)) (some (.cl L l)) (some (.ref L)) :=
  ⟨hE.hide (n := one L) (hid_one (e.free hL)) (e.trans (Ext.new hL)), rfl, .inr rfl, vs, upd_same, Reps.ext (ext_hide (n := one L) (hid_one hL) (Ext.new hL)) _ _ r⟩
/-- x = [..] -/
theorem jss_openSet (j : Nat) {es : List Expr} {l : List D} {x' : Str} {p p2 : Pos} (h : JA T X ρ es l) (hl : l.length ≤ 1000000) (hN : ∀ i, (X i).N.Nodup) (hr : ∀ L, JSs T X (orH m (one L)) (ρ.set j (some (.cl L l))) rest (OpenPst (one L) Φ))
    (hi : ∀ i, (X i).N[j]? = some x' := by intro _; rfl) (hx : ∀ i, Loc (X i).env.scope x' := by first | exact fun _ => Or.inl rfl | exact fun _ => Or.inr rfl)
    (hs : ∀ i, swapsWith (.List es p2) (some (.Name x' p)) pos.line (X i).env = pure false := by intro _; rfl) (hf : ∀ i, (X i).fn x' = true ∨ (X i).env.scope.names.lookup x' = some .local := by first | exact fun _ => .inl rfl | exact fun _ => .inr rfl) :
    JSs T X m ρ (.Assign [.Name x' p] (.List es p2) pos :: rest) Φ := by
  obtain ⟨ta, pa, xa⟩ := h
  refine JSs.of (fun i => pss_cons (ps_set (hN i) (hi i) (hx i) (pe_lst (pa i)) (hs i) (hf i)) (can_pss rest i)) fun ps σ H D' ho hE im => xa ps σ H ho.toHidOk hE _ fun vs H1 e1 r1 => ⟨by rw [reps_len r1]; exact big_ok hl, fun L hL => ?_⟩
  obtain ⟨h1, h2⟩ := env_open hE e1 hL r1
  have e2 : ExtM m H (upd H1 L (.lst vs)) := (e1.trans (Ext.new hL)).m
  exact hr L _ _ _ _ (hm_open ho e2 fun a z => by rw [z, upd_same]; exact fun z => nomatch z) (envR_set h2 j h1) (imp_open ho e2 (hid_one (e1.free hL)) im)
/-- x, y = [], e -/
theorem jss_openPar (j1 j2 : Nat) {x' y' : Str} {px py pt pl : Pos} {kt k2 pt2} (hX : Fam T k X) (hN : ∀ i, (X i).N.Nodup) (h : JE T X ρ e d) (hr : ∀ L, JSs T X (orH m (one L)) ((ρ.set j1 (some (.cl L []))).set j2 (some (.d d))) rest (OpenPst (one L) Φ))
    (hi : ∀ i, (X i).N[j1]? = some x' := by intro _; rfl) (hj : ∀ i, (X i).N[j2]? = some y' := by intro _; rfl) (hij : j1 ≠ j2 := by decide)
    (hx : ∀ i, (X i).env.scope.names.lookup x' = some .local := by intro _; rfl) (hy : ∀ i, (X i).env.scope.names.lookup y' = some .local := by intro _; rfl)
    (he1 : ∀ i, starEach [.List [] pl, e] (X i).env = (false, eval (.List [] pl) (X i).env) :: starEach [e] (X i).env := by intro _; rfl) (he2 : ∀ i, starEach [e] (X i).env = (false, eval e (X i).env) :: starEach [] (X i).env := by intro _; rfl)
    (hw : ∀ i, swappedStores [.Tuple [.Name x' px, .Name y' py] kt pt] (.Tuple [.List [] pl, e] k2 pt2) (X i).env = pure (some [x', y']) := by intro _; rfl)
    (hs : ∀ i, swapsWithSole [.Tuple [.Name x' px, .Name y' py] kt pt] (.Tuple [.List [] pl, e] k2 pt2) pos.line (X i).env = pure false := by intro _; rfl) :
    JSs T X m ρ (.Assign [.Tuple [.Name x' px, .Name y' py] kt pt] (.Tuple [.List [] pl, e] k2 pt2) pos :: rest) Φ := by
  obtain ⟨te, pe, xe⟩ := h
  refine JSs.of (fun i => pss_cons (ps_par (hX.calm i) (hN i) (hi i) (hj i) hij (hx i) (hy i) (pa_cons (pe_lst pa_nil) (pa_cons (pe i) pa_nil (he2 i)) (he1 i)) (hw i) (hs i)) (can_pss rest i)) fun ps σ H D' ho hE im => ⟨Nat.zero_le _, fun L hL => ?_⟩
  obtain ⟨h1, h2⟩ := env_open (l := []) hE (Ext.refl H) hL (reps_nil.mpr rfl)
  have e2 : ExtM m H (upd H L (.lst [])) := (Ext.new hL).m
  have ho2 : HM T (orH m (one L)) _ (orH ps (one L)) := hm_open ho e2 fun a z => by rw [z, upd_same]; exact fun z => nomatch z
  refine xe (orH ps (one L)) σ _ ho2.toHidOk h1 _ fun v H1 e1 r1 => ⟨_, v, rfl, ?_⟩
  have e3 : ExtM m H H1 := e2.trans e1.m
  exact hr L _ _ _ _ (ho2.monoE e1) (envR_set (x := some (.d d)) (v := some v) r1 j2 (envR_set (h2.ext e1) j1 (h1.ext e1))) (imp_open ho e3 (hid_one hL) im)
/-- x, y, z = e1, e2, [] -/
theorem jss_openPar3 (j1 j2 j3 : Nat) {x' y' z' : Str} {px py pz pt pl : Pos} {kt k2 pt2} {e2 : Expr} {d2 : D} (hX : Fam T k X) (hN : ∀ i, (X i).N.Nodup) (h : JE T X ρ e d) (h2 : JE T X ρ e2 d2) (hr : ∀ L, JSs T X (orH m (one L)) (((ρ.set j1 (some (.d d))).set j2 (some (.d d2))).set j3 (some (.cl L []))) rest (OpenPst (one L) Φ))
    (hi : ∀ i, (X i).N[j1]? = some x' := by intro _; rfl) (hj : ∀ i, (X i).N[j2]? = some y' := by intro _; rfl) (hl : ∀ i, (X i).N[j3]? = some z' := by intro _; rfl) (hij : j1 ≠ j2 := by decide) (hil : j1 ≠ j3 := by decide) (hjl : j2 ≠ j3 := by decide)
    (hx : ∀ i, (X i).env.scope.names.lookup x' = some .local := by intro _; rfl) (hy : ∀ i, (X i).env.scope.names.lookup y' = some .local := by intro _; rfl) (hz : ∀ i, (X i).env.scope.names.lookup z' = some .local := by intro _; rfl)
    (he1 : ∀ i, starEach [e, e2, .List [] pl] (X i).env = (false, eval e (X i).env) :: starEach [e2, .List [] pl] (X i).env := by intro _; rfl) (he2 : ∀ i, starEach [e2, .List [] pl] (X i).env = (false, eval e2 (X i).env) :: starEach [.List [] pl] (X i).env := by intro _; rfl) (he3 : ∀ i, starEach [.List [] pl] (X i).env = (false, eval (.List [] pl) (X i).env) :: starEach [] (X i).env := by intro _; rfl)
    (hw : ∀ i, swappedStores [.Tuple [.Name x' px, .Name y' py, .Name z' pz] kt pt] (.Tuple [e, e2, .List [] pl] k2 pt2) (X i).env = pure (some [x', y', z']) := by intro _; rfl)
    (hs : ∀ i, swapsWithSole [.Tuple [.Name x' px, .Name y' py, .Name z' pz] kt pt] (.Tuple [e, e2, .List [] pl] k2 pt2) pos.line (X i).env = pure false := by intro _; rfl) :
    JSs T X m ρ (.Assign [.Tuple [.Name x' px, .Name y' py, .Name z' pz] kt pt] (.Tuple [e, e2, .List [] pl] k2 pt2) pos :: rest) Φ := by
  obtain ⟨te, pe, xe⟩ := h
  obtain ⟨te2, pe2, xe2⟩ := h2
  refine JSs.of (fun i => pss_cons (ps_par3 (hX.calm i) (hN i) (hi i) (hj i) (hl i) hij hil hjl (hx i) (hy i) (hz i) (pa_cons (pe i) (pa_cons (pe2 i) (pa_cons (pe_lst pa_nil) pa_nil (he3 i)) (he2 i)) (he1 i)) (hw i) (hs i)) (can_pss rest i)) fun ps σ H D' ho hE im => ?_
  refine xe ps σ H ho.toHidOk hE _ fun v H1 e1 r1 => xe2 ps σ H1 (ho.monoE e1).toHidOk (hE.ext e1) _ fun u H2 e2 r2 => ⟨Nat.zero_le _, fun L hL => ⟨v, u, _, rfl, ?_⟩⟩
  have e12 := e1.trans e2
  obtain ⟨h1, h2⟩ := env_open (l := []) hE e12 hL (reps_nil.mpr rfl)
  have e3 : ExtM m H (upd H2 L (.lst [])) := (e12.trans (Ext.new hL)).m
  have ho2 : HM T (orH m (one L)) _ (orH ps (one L)) := hm_open ho e3 fun a z => by rw [z, upd_same]; exact fun z => nomatch z
  have hid : Ext (del H2 ps) (del (upd H2 L (.lst [])) (orH ps (one L))) := ext_hide (n := one L) (hid_one hL) (Ext.new hL)
  exact hr L _ _ _ _ ho2 (envR_set h2 j3 (envR_set (x := some (.d d2)) (v := some u) (Rep.ext hid _ _ r2) j2 (envR_set (x := some (.d d)) (v := some v) (Rep.ext hid _ _ (Rep.ext (e2.del ps) _ _ r1)) j1 h1))) (imp_open ho e3 (hid_one (e12.free hL)) im)
/-- return e, once the own list at L is own no more -/
theorem js_retO {L : Addr} {ρ2 : En} (hm : m L) (c : CloE (one L) ρ ρ2) (h : JE T X ρ2 e d) (q : Φ.rt (.ret L d) ρ) : JS T X m ρ (.Return (some e) pos) Φ := by
  obtain ⟨te, p, x⟩ := h
  refine JS.of (fun i => ps_ret (p i)) fun ps σ H D' ho hE im => ?_
  have hp : ps = orH (fun a => ps a ∧ a ≠ L) (one L) := funext fun a => propext ⟨fun h => (Classical.em (a = L)).elim .inr fun z => .inl ⟨h, z⟩, fun h => h.elim (fun z => z.1) fun z => by rw [show a = L from z]; exact ho.sub L hm⟩
  have hE2 : EnvR T H (fun a => ps a ∧ a ≠ L) ρ2 σ := env_clo (n := one L) (fun a z w => w.2 z) c (by rw [← hp]; exact hE)
  exact x _ σ H ⟨fun a z => ho.there a z.1, ho.tab⟩ hE2 _ fun v H1 e1 r1 => im.rt v H1 (.ret L d) σ ρ e1.m (hE.ext e1) r1 q
/-! ### x[i] = e, x[i] op= e, of an own list -/
theorem ixN_nat {n j : Nat} (h : j < n) : ixN n (j : Int) = some j := by
  unfold ixN
  rw [if_pos (by omega), if_pos (by omega)]
  simp
theorem js_clSet {b : Expr} {x' : Str} {p ps' : Pos} (j n : Nat) {L : Addr} {l : List D} {i : Int} (he : JE T X ρ e d) (hb : JE T X ρ b (.int i)) (hi : i = (n : Int)) (hn : n < l.length) (hm : m L) (hr : ρ[j]? = some (some (.cl L l))) (hpl : plainE (ρ.set j none) = true) (q : Φ.nx (ρ.set j (some (.cl L (l.set n d))))) (hN : ∀ i, (X i).N[j]? = some x' := by intro _; rfl)
    (hv : ∀ i, Vis (X i).env.scope x' := by first | exact fun _ => Or.inl rfl | exact fun _ => Or.inr (Or.inl rfl) | exact fun _ => Or.inr (Or.inr rfl)) (hdb : (x' == ("__debug__" : Str)) = false := by decide) (hcd : (x' == ("__classdict__" : Str)) = false := by decide)
    (ha : ∀ i' v, assign (.Subscript (.Name x' p) b ps') (X i').env v = (do
      let ov ← holding [v] (eval (.Name x' p) (X i').env)
      let iv ← holding [v, ov] (eval b (X i').env)
      standAt ps'
      holding [v, ov, iv] (setItem ov iv v)
      release [v, ov, iv] []) := by intro _ _; rfl)
    (hs : ∀ i, swapsWithSole [.Subscript (.Name x' p) b ps'] e pos.line (X i).env = pure false := by intro _; rfl) (hw : ∀ i, swappedStores [.Subscript (.Name x' p) b ps'] e (X i).env = pure none := by intro _; rfl)
    (h1 : ∀ i, (assignEach [.Subscript (.Name x' p) b ps'] (X i).env).map (·.2) = [assign (.Subscript (.Name x' p) b ps') (X i).env] := by intro _; rfl) : JS T X m ρ (.Assign [.Subscript (.Name x' p) b ps'] e pos) Φ := by
  obtain ⟨te, pe, xe⟩ := he
  obtain ⟨tb, pb, xb⟩ := hb
  refine JS.of (fun i => ps_asg (pe i) (pg_sub (pe_var (hN i) (hv i) hdb hcd) (pb i) set_list (ha i)) (hs i) (hw i) (h1 i)) fun ps σ H D' ho hE im => xe ps σ H ho.toHidOk hE _ fun v H1 e1 r1 => ?_
  have hE1 := hE.ext e1
  obtain ⟨w, g1, g2⟩ := envR_get hE1 hr
  obtain ⟨rfl, hp, vs, hL, hr'⟩ := rel_cl g2
  refine ⟨_, g1, xb ps σ H1 (ho.monoE e1).toHidOk hE1 _ fun u H2 e2 r2 => ?_⟩
  have hL2 : H2 L = some (.lst vs) := e2.at hL fun _ z => by cases z
  have e3 : ExtM m H2 (upd H2 L (.lst (vs.set n v))) := extM_upd hL2 hm
  refine ⟨L, vs, i, n, rfl, rep_int.mp r2, hL2, by rw [hi]; exact ixN_nat (by rw [reps_len hr']; exact hn), im.nx _ _ _ ((e1.trans e2).m.trans e3) ?_ q⟩
  have := EnvR.mut e3 ho.sub (rel_upd (l := l.set n d) (vs := vs.set n v) hp (reps_set (Reps.ext (e2.del ps) _ _ hr') (Rep.ext (e2.del ps) _ _ r1))) j (hE1.ext e2) hpl
  rwa [set_same g1] at this
theorem get_list {X : Cx} : PGet X (fun o i H Q => ∃ p xs, ∃ n : Nat, ∃ v, o = .ref p ∧ i = .int n ∧ H p = some (.lst xs) ∧ xs[n]? = some v ∧ Q v H) := by
  intro pins s σ H o i ov iv Q I ro ri h
  obtain ⟨p, xs, n, v, rfl, rfl, hp, hv, q⟩ := h
  cases ro
  obtain ⟨t, rfl⟩ := ri
  obtain ⟨its, r, pl, hz⟩ := I.list (SqL.of hp)
  obtain ⟨w, ew, rw'⟩ := r.get hv
  have hlt := (List.getElem?_eq_some_iff.mp hv).1
  have hn := line63
  have hl := r.length
  exact wpAny_getItem_list pl.isList (by omega) (by omega) (by simpa using ew) ⟨v, H, I, rw', q⟩
theorem js_clAug {b : Expr} {x' : Str} {p ps' : Pos} (j n : Nat) {L : Addr} {l : List D} {op : Operator} {C : Int → Int → Prop} {f : Int → Int → Int} {i u v : Int} (ho : ∀ i, OpR (X i) (inplaceOp op) (rI C fun i j => .int (f i j))) (hb : JE T X ρ b (.int i)) (he : JE T X ρ e (.int v)) (hi : i = (n : Int)) (hn : l[n]? = some (.int u)) (hC : C u v) (hm : m L) (hr : ρ[j]? = some (some (.cl L l))) (hpl : plainE (ρ.set j none) = true)
    (q : Φ.nx (ρ.set j (some (.cl L (l.set n (.int (f u v))))))) (hN : ∀ i, (X i).N[j]? = some x' := by intro _; rfl)
    (hv : ∀ i, Vis (X i).env.scope x' := by first | exact fun _ => Or.inl rfl | exact fun _ => Or.inr (Or.inl rfl) | exact fun _ => Or.inr (Or.inr rfl)) (hdb : (x' == ("__debug__" : Str)) = false := by decide) (hcd : (x' == ("__classdict__" : Str)) = false := by decide)
    (ha : ∀ ov iv new, augStore b ov iv new = (do holding [new, ov, iv] (setItem ov iv new); release [new, ov, iv] []; pure Flow.next) := by intros; rfl) : JS T X m ρ (.AugAssign (.Subscript (.Name x' p) b ps') op e pos) Φ := by
  obtain ⟨te, pe, xe⟩ := he
  obtain ⟨tb, pb, xb⟩ := hb
  refine JS.of (fun i => ps_augS (pe_var (hN i) (hv i) hdb hcd) (pb i) get_list (pe i) (pip_of (ho i)) set_list ha) fun ps σ H D' ho hE im => ?_
  obtain ⟨w, g1, g2⟩ := envR_get hE hr
  obtain ⟨rfl, hp, vs, hL, hr'⟩ := rel_cl g2
  refine ⟨_, g1, xb ps σ H ho.toHidOk hE _ fun w1 H1 e1 r1 => ?_⟩
  have hL1 : H1 L = some (.lst vs) := e1.at hL fun _ z => by cases z
  obtain ⟨w2, e5, r5⟩ := reps_get hr' hn
  refine ⟨L, vs, n, w2, rfl, by rw [rep_int.mp r1, hi], hL1, e5, xe ps σ H1 (ho.monoE e1).toHidOk (hE.ext e1) _ fun w3 H2 e2 r2 => ⟨u, v, rep_int.mp r5, rep_int.mp r2, hC, ?_⟩⟩
  have e12 := e1.trans e2
  have hL2 : H2 L = some (.lst vs) := e12.at hL fun _ z => by cases z
  have hlt := (List.getElem?_eq_some_iff.mp e5).1
  have e3 : ExtM m H2 (upd H2 L (.lst (vs.set n (.int (f u v))))) := extM_upd hL2 hm
  refine ⟨L, vs, (n : Int), n, rfl, by rw [rep_int.mp r1, hi], hL2, ixN_nat hlt, im.nx _ _ _ (e12.m.trans e3) ?_ q⟩
  have := EnvR.mut e3 ho.sub (rel_upd (l := l.set n (.int (f u v))) (vs := vs.set n (.int (f u v))) hp (reps_set (Reps.ext (e12.del ps) _ _ hr') (rep_int.mpr rfl))) j (hE.ext e12) hpl
  rwa [set_same g1] at this
end
end Fr
namespace Fr
open PySem PySem.Spec PyProof.Rows L2 StX
/-! ### a store into a slot, seen from outside -/
abbrev two (a dx : Addr) : Hid := fun z => z = a ∨ z = dx
theorem slH_other {H : Hp} {a b C dx : Addr} {vs : List (Option V)} (h : ¬ two a dx b) : SlX.slH H a C dx vs b = H b := SlX.slH_ne (fun z => h (.inl z)) fun z => h (.inr z)
theorem two_fresh {H : Hp} {a dx : Addr} (ha : H a = none) (hd : H dx = none) : ∀ z, two a dx z → H z = none := fun z h => by
  rcases h with rfl | rfl
  · exact ha
  · exact hd
theorem ext_slH {H H1 : Hp} {a C dx : Addr} {vs : List (Option V)} (e : Ext H H1) (hf : ∀ z, two a dx z → H z = none) : Ext H (SlX.slH H1 a C dx vs) := fun b o q => by
  obtain ⟨o', e', g⟩ := e b o q
  refine ⟨o', ?_, g⟩
  rw [slH_other fun z => by rw [hf b z] at q; cases q]
  exact e'
theorem del_slH {H : Hp} {a C dx : Addr} {ps : Hid} {vs : List (Option V)} (ha : ps a) (hd : ps dx) : del (SlX.slH H a C dx vs) ps = del H ps := by
  funext b
  unfold del
  by_cases p : ps b
  · rw [if_pos p, if_pos p]
  · rw [if_neg p, if_neg p]
    exact slH_other fun z => p (z.elim (fun e => e ▸ ha) fun e => e ▸ hd)
theorem new_two {H1 : Hp} {a dx : Addr} {o1 o2 : HO} (hf : ∀ z, two a dx z → H1 z = none) : Ext H1 (upd (upd H1 dx o1) a o2) := Ext.sub fun b o q => by
  have h1 : b ≠ a := fun z => by rw [hf b (.inl z)] at q; cases q
  have h2 : b ≠ dx := fun z => by rw [hf b (.inr z)] at q; cases q
  rw [upd_ne h1, upd_ne h2]
  exact q
/-! ### __init__ of a class with one slot -/
def SpInit (T : Tx) (b : Bool) (R : D → D → Prop) : Sp := fun vs H Q _ => ∃ a dx v d d' ps, vs = [.ref a, v] ∧ SlX.Slt H a (T.cls b) dx [] ∧ dx ≠ a ∧ ps a ∧ ps dx ∧ HidOk T H ps ∧ Rep T (del H ps) d v ∧ R d d' ∧ ∀ H3 w, Ext H H3 → Rep T (del H3 ps) d' w → Q .non (SlX.slH H3 a (T.cls b) dx [some w])
structure MkOk (T : Tx) (b : Bool) (x : Str) (j : Nat) (R : D → D → Prop) : Prop where
  ex : ∃ f fd ps, Mk T.K (T.cls b) f ∧ FnOk T.P T.w T.K T.mg T.base CX0 j f fd ps (SpInit T b R) ∧ Binds T.K fd ps [] ∧ T.mg x = some (.ref (T.cls b))
theorem FnOk.castS {T : Tx} {CX : CXT} {k : Nat} {f : Addr} {fd : FuncData} {ps : List Str} {sp : Sp} {ι : Type} {Y : ι → Cx} {j : Nat} (hX : Fam T j Y) (i : ι) (F : FnOk T.P T.w T.K T.mg T.base CX k f fd ps sp) : FnOk (Y i).prog (Y i).w (Y i).K (Y i).mg (Y i).base CX k f fd ps sp := by
  rw [hX.P i, hX.w i, hX.K i, hX.mg i, hX.base i]
  exact F
theorem FnR.cast {T : Tx} {CX : CXT} {k : Nat} {f : Addr} {sp : Sp} {ι : Type} {Y : ι → Cx} {j : Nat} (hX : Fam T j Y) (i : ι) (F : FnR T.P T.w T.K T.mg T.base CX k f sp) : FnR (Y i).prog (Y i).w (Y i).K (Y i).mg (Y i).base CX k f sp := by
  rw [hX.P i, hX.w i, hX.K i, hX.mg i, hX.base i]
  exact F
section
variable {T : Tx} {ι : Type} {X : ι → Cx} {m : Hid} {ρ : En} {k : Nat} {a b c e : Expr} {pos : Pos} {x y d d' : D} {Φ : Pst}
theorem je_make {z : Bool} {x' : Str} {R : D → D → Prop} {j : Nat} {p : Pos} (hX : Fam T k X) (M : MkOk T z x' j R) (he : JE T X ρ e d) (hR : R d d') (hj : j + 1 ≤ k := by decide) (hg : ∀ i, Gl (X i) x' := by intro _; rfl) (hdb : (x' == ("__debug__" : Str)) = false := by decide)
    (hs : ∀ i, starEach [e] (X i).env = (false, eval e (X i).env) :: starEach [] (X i).env := by intro _; rfl) : JE T X ρ (.Call (.Name x' p) [e] [] pos) (.obj z d') := by
  obtain ⟨te, pe, xe⟩ := he
  obtain ⟨f, fd, ps0, M, F, hb, hm⟩ := M.ex
  refine ⟨tMake (T.cls z) (SpInit T z R) [] E0 (tCons te tNil), fun i => pe_make (by rw [hX.K i]; exact M) (FnOk.castS (Y := X) hX i F) ((hX.room i).mono hj) (hg i) (by rw [hX.mg i]; exact hm) (by rw [hX.K i]; exact hb) .nil pass0 (pa_cons (pe i) pa_nil (hs i)) hdb (hs i) rfl, fun ps σ H ho hE Q q => xe ps σ H ho hE _ fun v H1 e1 r1 => ?_⟩
  intro xa dx hx hd hne
  have hf := two_fresh hx hd
  have hnp : ∀ z, two xa dx z → ¬ ps z := fun z h w => (ho.mono e1).there z w (hf z h)
  have e2 : Ext H1 (upd (upd H1 dx (.own xa)) xa (.ins (T.cls z) dx [])) := new_two hf
  refine ⟨xa, dx, v, d, d', orH ps (two xa dx), rfl, .inl ⟨upd_same, rfl⟩, hne, .inr (.inl rfl), .inr (.inr rfl), ?_, Rep.ext (ext_hide (n := two xa dx) hf e2) _ _ r1, hR, fun H3 w e3 r3 => ⟨rfl, ?_⟩⟩
  · refine ⟨fun y hy w => ?_, ((ho.mono e1).mono e2).tab⟩
    rcases hy with hy | rfl | rfl
    · exact ((ho.mono e1).mono e2).there y hy w
    · rw [upd_same] at w; cases w
    · rw [upd_ne hne, upd_same] at w; cases w
  · have e13 : Ext H1 H3 := e2.trans e3
    refine q _ _ (e1.trans (ext_slH e13 hf)) (rep_obj.mpr ⟨xa, dx, w, rfl, ?_, ?_⟩)
    · rcases SlX.slH_slt (H := H3) (C := T.cls z) (vs := [some w]) hne with ⟨_, q⟩ | ⟨q1, q2⟩
      · cases q
      · exact .inr ⟨by rw [del_of (hnp _ (.inl rfl))]; exact q1, by rw [del_of (hnp _ (.inr rfl))]; exact q2⟩
    · refine Rep.ext (Ext.sub fun b o h => ?_) _ _ r3
      obtain ⟨h, n⟩ := del_in h
      rw [del_of fun z => n (.inl z), slH_other fun z => n (.inr z)]
      exact h
/-- self.f = value -/
theorem mkok_mk {z : Bool} {x' nm qual fld : Str} {st : Stmt} {f : Addr} {fd : FuncData} {pn : Str} {R : D → D → Prop} {p1 p2 p3 : Pos} {value : Expr} (F : FunX T nm qual st f fd) (S : FnScope ["self", pn] ["self", pn] (defScope st)) (M : Mk T.K (T.cls z) f) (hb : Binds T.K fd ["self", pn] []) (hm : T.mg x' = some (.ref (T.cls z)))
    (hc : ClsOk T z) (hs : ∃ p, SlX.Slot1 T.K (T.cls z) fld p 0) (hbody : defBody st = [.Assign [.Attribute (.Name "self" p1) fld p2] value p3])
    (he : ∀ (cdv : Value) (A : Around) (outer : List Env) (s : Shared) (H : Hp) (E : XK) (self : V), Fam T k (XB T ["self", pn] qual st f cdv A outer s H E) → ∀ d d', R d d' → JE T (XB T ["self", pn] qual st f cdv A outer s H E) [some (.raw self), some (.d d)] value d')
    (hsw : ∀ (cdv : Value) (A : Around) (outer : List Env) (s : Shared) (H : Hp) (E : XK), swapsWith value (some (.Attribute (.Name "self" p1) fld p2)) p3.line (XB T ["self", pn] qual st f cdv A outer s H E ()).env = pure false := by intros; rfl) : MkOk T z x' (k + 1) R := by
  refine ⟨f, fd, ["self", pn], M, F.ok S (fun vs H Q E h => ?_) (fun cdv A outer s H vs Q E _ hr h => ?_), hb, hm⟩
  · obtain ⟨_, _, _, _, _, _, rfl, _⟩ := h
    rfl
  · obtain ⟨a, dx, v, d, d', ps, rfl, hsl, hne, pa, pd, ho, r, hR, q⟩ := h
    have fam : Fam T k (XB T ["self", pn] qual st f cdv A outer s H E) := ⟨fun _ => rfl, fun _ => rfl, fun _ => rfl, fun _ => rfl, fun _ => rfl, fun _ => rfl, fun _ => hr⟩
    obtain ⟨te, pe, xe⟩ := he cdv A outer s H E (.ref a) fam d d' hR
    obtain ⟨p, sl⟩ := hs
    have hself : Vis (defScope st) "self" := (S.par "self" (by simp)).elim .inl fun z => .inr (.inl z)
    refine ⟨SlX.sSl T.K (tVar 0) te fld, ?_, ?_⟩
    · rw [hbody]
      exact pss_one (SlX.ps_sl (X := XB T ["self", pn] qual st f cdv A outer s H E ()) (pe_var (i := 0) rfl hself (by decide) (by decide)) (pe ()) (hsw cdv A outer s H E))
    · refine xe ps [some (.ref a), some v] H ho (.cons (show V.ref a = V.ref a from rfl) (.cons (show Rep T (del H ps) d v from r) .nil)) _ fun w H1 e1 r1 => ?_
      exact ⟨.ref a, rfl, a, T.cls z, dx, p, [], 0, rfl, slt_ext e1 hsl, hc.sc, sl, q H1 w e1 r1⟩
/-! ### methods by name: property, [ ] -/
theorem spP_raw {f : Addr} {fd : FuncData} {ps : List Str} {j : Nat} {R : List D → D → Prop} (F : FnOk T.P T.w T.K T.mg T.base CX0 j f fd ps (SpP T R)) (hb : Binds T.K fd ps []) : FnR T.P T.w T.K T.mg T.base CX0 j f (SpP T R) := (F.raw hb .nil).imp fun vs H Q E h => by rw [List.append_nil]; exact h
structure PropOk (T : Tx) (f : Str) (j : Nat) (R : List D → D → Prop) : Prop where
  ex : ∃ p g, PySem.W.findIn T.K (.ref T.cF) f = some (some (.ref p)) ∧ PySem.W.specialIn T.K (.ref p) "__get__" = some (some (.builtin "property.__get__")) ∧ PySem.W.takesIn T.K (.ref p) = some true ∧ (∃ rest, PySem.W.recIn T.K p "property" = some (.ref g :: rest)) ∧ FnR T.P T.w T.K T.mg T.base CX0 j g (SpP T R)
theorem je_prop {f : Str} {j : Nat} {R : List D → D → Prop} (hX : Fam T k X) (hc : ClsOk T true) (P : PropOk T f j R) (he : JE T X ρ e (.obj true x)) (hR : R [.obj true x] d) (hj : j + 1 ≤ k := by decide) (hb : ∀ i, attributeBase e f (X i).env (eval e (X i).env) = eval e (X i).env := by intro _; rfl) : JE T X ρ (.Attribute e f pos) d := by
  obtain ⟨te, pe, xe⟩ := he
  obtain ⟨p, g, h1, h2, h3, h4, F⟩ := P.ex
  refine ⟨SlX.tPropSl T.cF (SpP T R) E0 te, fun i => SlX.pe_propSl (pe i) (by rw [hX.K i]; exact hc.sc) (by rw [hX.K i]; exact h1) (by rw [hX.K i]; exact h2) (by rw [hX.K i]; exact h3) (by rw [hX.K i]; exact h4) (FnR.cast (Y := X) hX i F) ((hX.room i).mono hj) (fun _ _ _ _ h => h) (hb i), fun ps σ H ho hE Q q => xe ps σ H ho hE _ fun v H1 e1 r1 => ?_⟩
  obtain ⟨w, dx, y, rfl, s, r⟩ := rep_obj.mp r1
  exact ⟨w, dx, [some y], rfl, slt_ext ext_del s, ps, [.obj true x], d, ho.mono e1, reps_cons.mpr ⟨_, [], rfl, r1, reps_nil.mpr rfl⟩, hR, fun v H2 e2 r2 => q v H2 (e1.trans e2) r2⟩
structure ItemOk (T : Tx) (j : Nat) (R : List D → D → Prop) : Prop where
  ex : ∃ g, PySem.W.findIn T.K (.ref T.cF) "__getitem__" = some (some (.ref g)) ∧ PySem.W.fnIn T.K g = true ∧ PySem.W.isFn T.K (.ref g) = true ∧ FnR T.P T.w T.K T.mg T.base CX0 j g (SpP T R)
def rOwnIx (C : Addr) (sp : Sp) : R2 := fun x y H Q => ∃ a dx vs, x = .ref a ∧ SlX.Slt H a C dx vs ∧ sp [x, y] H Q E0
theorem pe_ixOwn {Y : Cx} {C g : Addr} {j : Nat} {sp : Sp} {ta tb : TE} (hs : PySem.W.findIn Y.K (.ref C) "__getitem__" = some (some (.ref g))) (hf : PySem.W.fnIn Y.K g = true) (hfn : PySem.W.isFn Y.K (.ref g) = true) (F : FnR Y.prog Y.w Y.K Y.mg Y.base CX0 j g sp) (hr : Room (j + 1) Y.A) (ha : PE Y a ta) (hb : PE Y b tb)
    (hsl : ∀ z i, subscripted b true (.ref z) i = runValue (.builtin "lifetime.subscript" ⟨[.ref z, i], []⟩)) (hp : PlainIx b) : PE Y (.Subscript a b pos) (tOp (rOwnIx C sp) ta tb) := by
  refine ⟨fun pins s σ H Q I h => ?_⟩
  refine Subscript_ (binT ha hb I h fun v u s2 x y H2 I2 rx ry q => ?_)
  obtain ⟨a', dx, vs, rfl, hsl', q⟩ := q
  cases rx
  obtain ⟨sl, od, _, J, _⟩ := SlX.slt_inst I2 hsl'
  obtain ⟨m, hF⟩ := I2.fr
  exact PySem.W.sub_K hF I2.ok.mod.kin J hs hf hfn (wpAny_mono (wpAny_call (SlX.run_at (us := [.ref a', u]) (ws := [.ref a', y]) F hr.in1 I2.env0.in1 pass0 I2 (.cons rfl (.cons ry .nil)) q)) (fun w s' z => z) fun _ _ x => x) (hsl a' u)
theorem je_item {j : Nat} {R : List D → D → Prop} {i : Int} (hX : Fam T k X) (P : ItemOk T j R) (ha : JE T X ρ a (.obj true x)) (hb : JE T X ρ b (.int i)) (hR : R [.obj true x, .int i] d) (hj : j + 1 ≤ k := by decide)
    (hsl : ∀ z i, subscripted b true (.ref z) i = runValue (.builtin "lifetime.subscript" ⟨[.ref z, i], []⟩) := by intro _ _; with_unfolding_all rfl) (hp : PlainIx b := by exact fun _ _ => rfl) : JE T X ρ (.Subscript a b pos) d := by
  obtain ⟨ta, pa, xa⟩ := ha
  obtain ⟨tb, pb, xb⟩ := hb
  obtain ⟨g, h1, h2, h3, F⟩ := P.ex
  refine ⟨tOp (rOwnIx T.cF (SpP T R)) ta tb, fun i => pe_ixOwn (by rw [hX.K i]; exact h1) (by rw [hX.K i]; exact h2) (by rw [hX.K i]; exact h3) (FnR.cast (Y := X) hX i F) ((hX.room i).mono hj) (pa i) (pb i) hsl hp, ae_op xa xb fun ps H v u Q ho r1 r2 q => ?_⟩
  obtain ⟨w, dx, y, rfl, s, r⟩ := rep_obj.mp r1
  exact ⟨w, dx, [some y], rfl, slt_ext ext_del s, ps, [.obj true x, .int i], d, ho, reps_cons.mpr ⟨_, _, rfl, r1, reps_cons.mpr ⟨_, [], rfl, r2, reps_nil.mpr rfl⟩⟩, hR, fun v H2 e2 r2 => q v H2 e2 r2⟩
end
end Fr
namespace PySem.W
open PySem PySem.Calls PyProof.Rows Builtin
section
variable {prog : Program} {w : World} {A : Around} {E : Value → Shared → Prop} {s : Shared} {K : Frag} {x y C L f : Addr} {h₀ : Heap} {m : Str → Option Value} {ox oy : Obj} {od od' : Option Obj}
theorem neSlot : Slot "object" "__ne__" "object.__ne__" := .of (T := "object") (name := "__ne__") (owner := "object") (n := "__ne__") (by rw [typeLookup_type, builtinLookup_eq_fast]; kernel_rfl) (by decide +kernel) (by decide +kernel) (by decide +kernel)
    (.inl (by decide +kernel)) (by rw [isSubtype_type]; kernel_rfl)
theorem ifBound_ne {M : Model} {args : List Value} {Q : Option Value → Shared → Prop} (X : K.In s.heap) (I : InstAt s.heap x ox C od) (hs : findIn K (.ref C) "__ne__" = some (some (.builtin "object.__ne__")))
    (h : wpAny M A (call (.builtin "object.__ne__") (.ref x :: args)) (fun v => Q (some v)) E s) : wpAny M A (callSpecialIfBound? (.ref x) "__ne__" args) Q E s := by
  simp only [callSpecialIfBound?, bindSpecialIfBound?]
  refine wpAny_holding (wpAny_bind (wpAny_bind (wpAny_bind (I.type.here ((looks_findIn X hs).here ?_)))))
  refine wpAny_bind (wpAny_askSetting (wpAny_ite ?_))
  have fin : wpAny M A (call (.builtin "object.__ne__") ([.ref x] ++ args) >>= fun v => pure (some v)) Q E s := wpAny_bind (wpAny_mono h (fun v s' h' => wpAny_pure h') fun _ _ h' => h')
  split
  · exact wpAny_bind ((Looks.of_pure (neSlot.bind _)).here (wpAny_pure (by exact fin)))
  · exact wpAny_tryCatch (wpAny_bind ((Looks.of_pure (neSlot.bind _)).here (wpAny_pure (by exact fin))))
/-- x != y by object.__ne__ over an own __eq__ -/
theorem ne_K {Q : Value → Shared → Prop} (hu : A.units + 1 < cLine) (X : K.In s.heap) (I : InstAt s.heap x ox C od) (J : InstAt s.heap y oy C od') (hm : mroIn K C (.type "object") = some true)
    (hn : findIn K (.ref C) "__ne__" = some (some (.builtin "object.__ne__"))) (hs : findIn K (.ref C) "__eq__" = some (some (.ref f))) (hf : isFn K (.ref f) = true)
    (h : wpAny (model prog w) A.in1 (call (.ref f) [.ref x, .ref y]) (fun v s' => ∃ b, v = .bool b ∧ Q (.bool (!b)) s') E s) : wpAny (model prog w) A (richCompare .NotEq (.ref x) (.ref y)) Q E s := by
  have entry : ∀ {R : Fin → Shared → Prop}, wpAny (model prog w) A.in1 (call (.ref f) [.ref x, .ref y]) (fun v s' => ∃ b, v = .bool b ∧ R (.done (.ret (.bool (!b)))) s') E s →
      wpAny (model prog w) A.in1 (Builtin.«object.__ne__» ⟨[.ref x, .ref y], []⟩) R E s := fun {R} hc => by
    unfold Builtin.«object.__ne__»
    repeat (first
      | with_reducible refine wpAny_cRoomFor (show A.in1.units < cLine from hu) ?_
      | (refine wpAny_bind (m := callSpecialIfBound? (.ref x) (Str.ofString "__eq__") [.ref y]) (ifBound_K X I hs hf (wpAny_mono hc (fun r s' hr => by
            obtain ⟨b, rfl, hq⟩ := hr
            repeat (first | exact hq | exact wpAny_pure hq | exact wpAny_truthy_bool hq | (refine wpAny_bind (m := truthy (.bool _)) (wpAny_truthy_bool ?_)) | wp_step)) fun _ _ e => e)))
      | wp_step)
  unfold richCompare
  simp only [oneThing_ref]
  refine wpAny_holding ?_
  refine wpAny_bind (wpAny_cRoomFor (Nat.lt_of_succ_lt hu) ?_)
  rw [cmpInfo_NotEq]
  dsimp only
  refine wpAny_bind (I.type.here (wpAny_bind (J.type.here ?_)))
  rw [show (Value.ref C != Value.ref C) = false from by simp]
  simp only [Bool.false_eq_true, if_false]
  refine wpAny_bind (wpAny_pure ?_)
  simp only [Bool.false_eq_true, if_false]
  have one : wpAny (model prog w) A (tryCompare (.ref x) "__ne__" (.ref y)) (fun r s' => ∃ v, r = some v ∧ Q v s') E s := by
    unfold tryCompare
    refine wpAny_bind (ifBound_ne X I hn ?_)
    refine wpAny_call (codeAny_call_builtin (id := "object.__ne__") neSlot.plain F.cmpEntry_ne (check_slot F.cmpKind_ne F.cmpSplit_ne (I.type.andThen (looks_mroIn X hm)) (F.cmpArgs_ne _ _) (entry (wpAny_mono h (fun v s' hv => ?_) fun _ _ e => e))))
    obtain ⟨b, rfl, hq⟩ := hv
    exact ⟨b, rfl, wpAny_pure ⟨_, rfl, hq⟩⟩
  refine wpAny_bind (wpAny_mono one (fun r s' z => ?_) fun _ _ e => e)
  obtain ⟨v, rfl, hq⟩ := z
  exact wpAny_pure hq
end
end PySem.W
namespace Fr
open PySem PySem.Spec PyProof.Rows L2 StX
/-! ### == and != of Forms -/
def SpEqF (T : Tx) : Sp := fun vs H Q _ => ∃ a b dx dy u w x y, vs = [.ref a, .ref b] ∧ SlX.Slt H a T.cF dx [some u] ∧ SlX.Slt H b T.cF dy [some w] ∧ Dp T.K H u x ∧ Dp T.K H w y ∧ SeqAt.shaped x = true ∧ SeqAt.shaped y = true ∧ Q (.bl (PyData.eqv x y)) H
structure EqOk (T : Tx) (j : Nat) : Prop where
  ex : ∃ g, PySem.W.findIn T.K (.ref T.cF) "__eq__" = some (some (.ref g)) ∧ PySem.W.isFn T.K (.ref g) = true ∧ FnR T.P T.w T.K T.mg T.base CX0 j g (SpEqF T)
  ne : PySem.W.findIn T.K (.ref T.cF) "__ne__" = some (some (.builtin "object.__ne__"))
  mr : PySem.W.mroIn T.K T.cF (.type "object") = some true
section
variable {T : Tx} {ι : Type} {X : ι → Cx} {m : Hid} {ρ : En} {k : Nat} {a b c e : Expr} {pos : Pos} {x y d d' : D} {Φ : Pst}
theorem spEqF_of {ps : Hid} {H : Hp} {v u : V} {Q : VK} (p1 : plainD x = true) (p2 : plainD y = true) (s1 : SeqAt.shaped (toPy x) = true) (s2 : SeqAt.shaped (toPy y) = true) (r1 : Rep T (del H ps) (.obj true x) v) (r2 : Rep T (del H ps) (.obj true y) u) (q : Q (.bl (PyData.eqv (toPy x) (toPy y))) H) : SpEqF T [v, u] H Q E0 := by
  obtain ⟨a, dx, w, rfl, s, r⟩ := rep_obj.mp r1
  obtain ⟨b, dy, z, rfl, s', r'⟩ := rep_obj.mp r2
  exact ⟨a, b, dx, dy, w, z, _, _, rfl, slt_ext ext_del s, slt_ext ext_del s', dp_ext ext_del _ _ (rep_dp x w p1 r), dp_ext ext_del _ _ (rep_dp y z p2 r'), s1, s2, q⟩
theorem je_eqF {j : Nat} (hX : Fam T k X) (P : EqOk T j) (ha : JE T X ρ a (.obj true x)) (hb : JE T X ρ b (.obj true y)) (hj : j ≤ k := by decide) (p1 : plainD x = true := by rfl) (p2 : plainD y = true := by rfl) (s1 : SeqAt.shaped (toPy x) = true := by rfl) (s2 : SeqAt.shaped (toPy y) = true := by rfl) :
    JE T X ρ (.Compare a [.Eq] [b] pos) (.bl (PyData.eqv (toPy x) (toPy y))) := by
  obtain ⟨ta, pa, xa⟩ := ha
  obtain ⟨tb, pb, xb⟩ := hb
  obtain ⟨g, h1, h2, F⟩ := P.ex
  refine ⟨tOp (SlX.rOwn T.K T.cF (SpEqF T) E0) ta tb, fun i => pe_cmpR (by rw [← hX.K i]; exact SlX.op_own (fun _ _ => rfl) (by rw [hX.K i]; exact h1) (by rw [hX.K i]; exact h2) (FnR.cast (Y := X) hX i F) ((hX.room i).mono hj) pass0) (pa i) (pb i) (nomark _), ae_op xa xb fun ps H v u Q ho r1 r2 q => ?_⟩
  have := spEqF_of p1 p2 s1 s2 r1 r2 (q _ H (Ext.refl H) (rep_bl.mpr rfl))
  obtain ⟨a, dx, w, rfl, s, r⟩ := rep_obj.mp r1
  obtain ⟨b, dy, z, rfl, s', r'⟩ := rep_obj.mp r2
  exact ⟨a, dx, [some w], b, T.cF, dy, [some z], rfl, rfl, slt_ext ext_del s, slt_ext ext_del s', by simp [PySem.W.notFirst], this⟩
def rNeOwn (C : Addr) (sp : Sp) : R2 := fun x y H Q => ∃ a dx vs b dy ws, x = .ref a ∧ y = .ref b ∧ SlX.Slt H a C dx vs ∧ SlX.Slt H b C dy ws ∧ sp [x, y] H (fun v H' => ∃ b, v = .bl b ∧ Q (.bl (!b)) H') E0
theorem op_neOwn {Y : Cx} {C g : Addr} {j : Nat} {sp : Sp} (hn : PySem.W.findIn Y.K (.ref C) "__ne__" = some (some (.builtin "object.__ne__"))) (hm : PySem.W.mroIn Y.K C (.type "object") = some true) (hs : PySem.W.findIn Y.K (.ref C) "__eq__" = some (some (.ref g))) (hf : PySem.W.isFn Y.K (.ref g) = true)
    (F : FnR Y.prog Y.w Y.K Y.mg Y.base CX0 j g sp) (hr : Room (j + 1) Y.A) : OpR Y (compareOp .NotEq) (rNeOwn C sp) := by
  intro pins s σ H x y v u Q I rx ry h
  obtain ⟨a, dx, vs, b, dy, ws, rfl, rfl, ha, hb, q⟩ := h
  cases (show v = Value.ref a from rx)
  cases (show u = Value.ref b from ry)
  obtain ⟨sl, od, _, J, _⟩ := SlX.slt_inst I ha
  obtain ⟨sl', od', _, J', _⟩ := SlX.slt_inst I hb
  show wpAny (model Y.prog Y.w) Y.A (richCompare .NotEq _ _) _ _ s
  refine PySem.W.ne_K (by have := hr.units; omega) I.kIn J J' hm hn hs hf ?_
  refine wpAny_mono (wpAny_call (SlX.run_at (us := [.ref a, .ref b]) (ws := [.ref a, .ref b]) F hr.in1 I.env0.in1 pass0 I (.cons rfl (.cons rfl .nil)) q)) (fun w s' z => ?_) fun _ _ x => x
  obtain ⟨z', H', I', rz, c, e, qz⟩ := z
  subst e
  exact ⟨c, rz, .bl (!c), H', I', rfl, qz⟩
theorem jt_neF {j : Nat} (hX : Fam T k X) (P : EqOk T j) (ha : JE T X ρ a (.obj true x)) (hb : JE T X ρ b (.obj true y)) (hj : j + 1 ≤ k := by decide) (p1 : plainD x = true := by rfl) (p2 : plainD y = true := by rfl) (s1 : SeqAt.shaped (toPy x) = true := by rfl) (s2 : SeqAt.shaped (toPy y) = true := by rfl) :
    JT T X ρ (.Compare a [.NotEq] [b] pos) (!PyData.eqv (toPy x) (toPy y)) := by
  obtain ⟨g, h1, h2, F⟩ := P.ex
  refine jt_cmp (r := rNeOwn T.cF (SpEqF T)) (fun i => op_neOwn (by rw [hX.K i]; exact P.ne) (by rw [hX.K i]; exact P.mr) (by rw [hX.K i]; exact h1) (by rw [hX.K i]; exact h2) (FnR.cast (Y := X) hX i F) ((hX.room i).mono hj)) (nomark _) ha hb fun ps H v u Q ho r1 r2 q => ?_
  have := spEqF_of (Q := fun v H' => ∃ b, v = .bl b ∧ Q (.bl (!b)) H') p1 p2 s1 s2 r1 r2 ⟨_, rfl, q⟩
  obtain ⟨a, dx, w, rfl, s, r⟩ := rep_obj.mp r1
  obtain ⟨b, dy, z, rfl, s', r'⟩ := rep_obj.mp r2
  exact ⟨a, dx, [some w], b, dy, [some z], rfl, rfl, slt_ext ext_del s, slt_ext ext_del s', this⟩
/-! ### == of pairs (Form, int) that are equal -/
def DSlt (T : Tx) : Eqv := fun x y H => ∃ a b dx dy u w p q, x = .ref a ∧ y = .ref b ∧ SlX.Slt H a T.cF dx [some u] ∧ SlX.Slt H b T.cF dy [some w] ∧ Dp T.K H u p ∧ Dp T.K H w q ∧ SeqAt.shaped p = true ∧ SeqAt.shaped q = true ∧ PyData.eqv p q = true
theorem mon_slt : Mon (DSlt T) := fun x y H H' e h => by
  obtain ⟨a, b, dx, dy, u, w, p, q, hx, hy, s1, s2, d1, d2, r⟩ := h
  have e : Ext H H' := Ext.sub e
  exact ⟨a, b, dx, dy, u, w, p, q, hx, hy, slt_ext e s1, slt_ext e s2, dp_ext e _ _ d1, dp_ext e _ _ d2, r⟩
theorem rcG_slt {Y : Cx} {j : Nat} {ι : Type} {X : ι → Cx} (hX : Fam T k X) (i : ι) (P : EqOk T j) : RcG (X i) j (DSlt T) := by
  intro A pins s σ H x y u v sb I rx ry d
  obtain ⟨a, b, dx, dy, u1, w1, p, q, rfl, rfl, ha, hb', d1, d2, s1, s2, he⟩ := d
  cases rx
  cases ry
  obtain ⟨g, hs, hf, F⟩ := P.ex
  obtain ⟨sl, od, _, J, _⟩ := SlX.slt_inst I ha
  obtain ⟨sl', od', _, J', _⟩ := SlX.slt_inst I hb'
  obtain ⟨m, hF⟩ := I.fr
  refine PySem.W.cmp_K (op := .Eq) (tb := .ref T.cF) sb.room.units0 hF I.ok.mod.kin J J'.type (by simp [PySem.W.notFirst]) (by rw [hX.K i]; exact hs) (by rw [hX.K i]; exact hf) ?_
  have hsp : SpEqF T [.ref a, .ref b] H (fun v H' => v = .bl true ∧ L2.Ext H H') E0 := ⟨a, b, dx, dy, u1, w1, p, q, rfl, ha, hb', d1, d2, s1, s2, by rw [he]; exact ⟨rfl, L2.Ext.rfl'⟩⟩
  have e0 : Env0 (X i).prog (X i).w (X i).K (X i).mg (X i).base A (X i).stack s H := by
    have e := I.env0
    exact ⟨by rw [sb.fr]; exact e.frames, e.mod, e.bs, e.bsz, e.funs, e.frf, e.hok, e.bare⟩
  refine wpAny_mono (wpAny_call (SlX.run_at (us := [.ref a, .ref b]) (ws := [.ref a, .ref b]) (FnR.cast (Y := X) hX i F) sb.room e0 pass0 I (.cons rfl (.cons rfl .nil)) hsp)) (fun r s' hq => ?_) fun _ _ x => x
  obtain ⟨z, H', I', rz, ez, ex⟩ := hq
  subst ez
  cases rz
  exact ⟨rfl, H', I', ex⟩
theorem eqG_slt {j : Nat} (hX : Fam T k X) (i : ι) (P : EqOk T j) : EqG (X i) j (DSlt T) := (rcG_slt (Y := X i) hX i P).eqG fun _ _ _ d => let ⟨a, b, _, _, _, _, _, _, hx, hy, _⟩ := d; ⟨a, b, hx, hy⟩
theorem je_eqTF {j : Nat} {i : Int} (hX : Fam T k X) (P : EqOk T j) (ha : JE T X ρ a (.tup [.obj true x, .int i])) (hb : JE T X ρ b (.tup [.obj true y, .int i])) (he : PyData.eqv (toPy x) (toPy y) = true) (hj : j + 1 ≤ k := by decide) (p1 : plainD x = true := by rfl) (p2 : plainD y = true := by rfl) (s1 : SeqAt.shaped (toPy x) = true := by rfl) (s2 : SeqAt.shaped (toPy y) = true := by rfl) :
    JE T X ρ (.Compare a [.Eq] [b] pos) (.bl true) := by
  obtain ⟨ta, pa, xa⟩ := ha
  obtain ⟨tb, pb, xb⟩ := hb
  refine ⟨tOp (rEqG (DTup T.K fun x y H => DSlt T x y H ∨ DFlat x y H)) ta tb, fun i => pe_cmpR (op_eqG (n := j + 1) (by rw [← hX.K i]; exact rcG_tup (mon_slt.or mon_flat) ((eqG_slt hX i P).or (eqG_flat.mono (by omega)))) ((hX.room i).mono hj)) (pa i) (pb i) (nomark _), ae_op xa xb fun ps H v u Q ho r1 r2 q => ?_⟩
  obtain ⟨a, vs, rfl, sa, ra⟩ := rep_tup.mp r1
  obtain ⟨b, ws, rfl, sb, rb⟩ := rep_tup.mp r2
  obtain ⟨v1, v2, rfl, f1, f2⟩ := reps_two ra
  obtain ⟨u1, u2, rfl, g1, g2⟩ := reps_two rb
  refine ⟨⟨a, b, _, _, rfl, rfl, sqT_ext ext_del sa, sqT_ext ext_del sb, .cons (.inl ?_) (.cons (.inr ?_) .nil)⟩, fun H' e => q _ H' (Ext.sub e) (rep_bl.mpr rfl)⟩
  · obtain ⟨a, dx, w, rfl, s, r⟩ := rep_obj.mp f1
    obtain ⟨b, dy, z, rfl, s', r'⟩ := rep_obj.mp g1
    exact ⟨a, b, dx, dy, w, z, _, _, rfl, rfl, slt_ext ext_del s, slt_ext ext_del s', dp_ext ext_del _ _ (rep_dp x w p1 r), dp_ext ext_del _ _ (rep_dp y z p2 r'), s1, s2, he⟩
  · rw [rep_int.mp f2, rep_int.mp g2]
    exact ⟨rfl, rfl, by simp [eqV]⟩
end
end Fr
namespace Fr
open PySem PySem.Spec PyProof.Rows L2 StX
/-! ### defs that change a cell of their caller -/
def hidOf : Sl → Hid
  | .cl L _ => one L
  | .cw a dx _ _ => two a dx
  | _ => noM
def sameC : Sl → Sl → Prop
  | .cl L _, .cl L' _ => L' = L
  | .cw a dx _ _, .cw a' dx' _ _ => a' = a ∧ dx' = dx
  | _, _ => False
theorem hidOf_sub {T : Tx} {H : Hp} {ps : Hid} : ∀ {c : Sl} {v : V}, RelS T H ps (some c) (some v) → ∀ a, hidOf c a → ps a
  | .cl L l, v, ⟨_, h, _⟩, a, e => by rw [show a = L from e]; exact h
  | .cw x dx ch nu, v, ⟨_, h, h2, _⟩, a, e => e.elim (fun z => by rw [z]; exact h) fun z => by rw [z]; exact h2
  | .d _, _, _, _, e => e.elim
  | .raw _, _, _, _, e => e.elim
  | .new _, _, _, _, e => e.elim
  | .ret _ _, _, _, _, e => e.elim
theorem same_rel {T : Tx} {H H' : Hp} {ps ps' : Hid} : ∀ {c c' : Sl} {v u : V}, sameC c c' → RelS T H ps (some c) (some v) → RelS T H' ps' (some c') (some u) → RelS T H' ps' (some c') (some v)
  | .cl L l, .cl L' l', v, u, h, ⟨e, _⟩, ⟨e', q⟩ => by
    have h : L' = L := h
    subst h
    exact ⟨e, q⟩
  | .cw a dx _ _, .cw a' dx' _ _, v, u, h, ⟨e, _⟩, ⟨e', q⟩ => by
    obtain ⟨rfl, rfl⟩ : a' = a ∧ dx' = dx := h
    exact ⟨e, q⟩
  | .d _, _, _, _, h, _, _ => h.elim
  | .raw _, _, _, _, h, _, _ => h.elim
  | .new _, _, _, _, h, _, _ => h.elim
  | .ret _ _, _, _, _, h, _, _ => h.elim
  | .cl _ _, .d _, _, _, h, _, _ => h.elim
  | .cl _ _, .raw _, _, _, h, _, _ => h.elim
  | .cl _ _, .new _, _, _, h, _, _ => h.elim
  | .cl _ _, .ret _ _, _, _, h, _, _ => h.elim
  | .cl _ _, .cw _ _ _ _, _, _, h, _, _ => h.elim
  | .cw _ _ _ _, .d _, _, _, h, _, _ => h.elim
  | .cw _ _ _ _, .raw _, _, _, h, _, _ => h.elim
  | .cw _ _ _ _, .new _, _, _, h, _, _ => h.elim
  | .cw _ _ _ _, .ret _ _, _, _, h, _, _ => h.elim
  | .cw _ _ _ _, .cl _ _, _, _, h, _, _ => h.elim
def SpC (T : Tx) (Pre : Sl → List D → Prop) (Po : Sl → List D → D → Sl → Prop) : Sp := fun vs H Q _ => ∃ ps v0 vr c ds, vs = v0 :: vr ∧ HidOk T H ps ∧ RelS T H ps (some c) (some v0) ∧ Reps T (del H ps) ds vr ∧ Pre c ds ∧ ∀ d c' v H', Po c ds d c' → ExtM (hidOf c) H H' → RelS T H' ps (some c') (some v0) → Rep T (del H' ps) d v → Q v H'
def startC (N : List Str) (c : Sl) (ds : List D) : En := some c :: startE N.tail ds
section
variable {T : Tx}
theorem envR_startC {H : Hp} {ps : Hid} {N : List Str} {n0 : Str} {c : Sl} {ds : List D} {v0 : V} {vs : List V} (h0 : RelS T H ps (some c) (some v0)) (h : Reps T (del H ps) ds vs) : EnvR T H ps (startC (n0 :: N) c ds) (L2.start (n0 :: N) (v0 :: vs)) := by
  have e : L2.start (n0 :: N) (v0 :: vs) = some v0 :: L2.start N vs := by
    unfold L2.start
    simp
  rw [e]
  exact .cons h0 (envR_start h)
theorem fn_mkC {x qual : Str} {st : Stmt} {f : Addr} {fd : FuncData} {n0 : Str} {N ps : List Str} {k : Nat} {Pre : Sl → List D → Prop} {Po : Sl → List D → D → Sl → Prop} (F : FunX T x qual st f fd) (S : FnScope (n0 :: N) ps (defScope st)) (len : ∀ c ds, Pre c ds → ds.length + 1 = ps.length) (same : ∀ c ds d c', Po c ds d c' → sameC c c')
    (body : ∀ (cdv : Value) (A : Around) (outer : List Env) (s : Shared) (H : Hp) (E : XK), Fam T k (XB T (n0 :: N) qual st f cdv A outer s H E) → ∀ c ds, Pre c ds → JSs T (XB T (n0 :: N) qual st f cdv A outer s H E) (hidOf c) (startC (n0 :: N) c ds) (defBody st)
      { nx := fun ρ' => ∃ c', ρ'[0]? = some (some c') ∧ Po c ds .non c', rt := fun x ρ' => ∃ d c', x = .d d ∧ ρ'[0]? = some (some c') ∧ Po c ds d c' }) : FnOk T.P T.w T.K T.mg T.base CX0 (k + 1) f fd ps (SpC T Pre Po) := by
  refine F.ok S (fun vs H Q E h => ?_) (fun cdv A outer s H vs Q E _ hr h => ?_)
  · obtain ⟨_, v0, vr, c, ds, rfl, _, _, r, q, _⟩ := h
    rw [List.length_cons, reps_len r, len c ds q]
  · obtain ⟨ps, v0, vr, c, ds, rfl, ho, r0, r, q, kk⟩ := h
    have fam : Fam T k (XB T (n0 :: N) qual st f cdv A outer s H E) := ⟨fun _ => rfl, fun _ => rfl, fun _ => rfl, fun _ => rfl, fun _ => rfl, fun _ => rfl, fun _ => hr⟩
    refine ⟨canSs (XB T (n0 :: N) qual st f cdv A outer s H E) (defBody st), can_pss (X := XB T (n0 :: N) qual st f cdv A outer s H E) (defBody st) (), ?_⟩
    refine body cdv A outer s H E fam c ds q ps _ H _ ⟨ho, hidOf_sub r0⟩ (envR_startC r0 r) ⟨fun σ' H' ρ' e r' z => ?_, fun v H' x' σ' ρ' e r' w z => ?_, fun _ _ _ _ _ z => z.elim, fun _ _ _ _ _ z => z.elim⟩
    · obtain ⟨c', h1, h2⟩ := z
      obtain ⟨u, g1, g2⟩ := envR_get r' h1
      exact kk .non c' _ H' h2 e (same_rel (same _ _ _ _ h2) r0 g2) (rep_non.mpr rfl)
    · obtain ⟨d, c', rfl, h1, h2⟩ := z
      obtain ⟨u, g1, g2⟩ := envR_get r' h1
      exact kk d c' v H' h2 e (same_rel (same _ _ _ _ h2) r0 g2) w
end
/-- the def x with a cell as its first argument -/
structure CFn (T : Tx) (x : Str) (k : Nat) (Pre : Sl → List D → Prop) (Po : Sl → List D → D → Sl → Prop) : Prop where
  ex : ∃ f fd ps, FnOk T.P T.w T.K T.mg T.base CX0 k f fd ps (SpC T Pre Po) ∧ T.mg x = some (.ref f) ∧ PySem.W.keepIn T.K (.ref f) = true ∧ Binds T.K fd ps []
/-! ### expressions that change a cell -/
def AM (T : Tx) (m : Hid) (te : TE) (ρ : En) (Ψ : D → En → Prop) : Prop := ∀ (ps : Hid) (σ : L2.St) (H : Hp), HM T m H ps → EnvR T H ps ρ σ → ∀ Q : VK, (∀ v H' d ρ', ExtM m H H' → EnvR T H' ps ρ' σ → Rep T (del H' ps) d v → Ψ d ρ' → Q v H') → te σ H Q
def JM (T : Tx) {ι : Type} (X : ι → Cx) (m : Hid) (ρ : En) (e : Expr) (Ψ : D → En → Prop) : Prop := ∃ te, (∀ i, PE (X i) e te) ∧ AM T m te ρ Ψ
section
variable {T : Tx} {ι : Type} {X : ι → Cx} {m : Hid} {ρ : En} {k : Nat} {a b c e : Expr} {pos : Pos} {x y d d' : D} {Φ : Pst} {Ψ : D → En → Prop} {rest : List Stmt}
theorem JM.of (h : JE T X ρ e d) (q : Ψ d ρ) : JM T X m ρ e Ψ := by
  obtain ⟨te, p, xe⟩ := h
  exact ⟨te, p, fun ps σ H ho hE Q k => xe ps σ H ho.toHidOk hE _ fun v H1 e1 r1 => k v H1 d ρ e1.m (hE.ext e1) r1 q⟩
theorem AA.at {ta : TA} {l : List D} (xa : AA T ta ρ l) : AA T ta ρ l := xa
/-- f(x, ..), x a cell -/
theorem jm_callC {x' fn : Str} {Pre : Sl → List D → Prop} {Po : Sl → List D → D → Sl → Prop} {j0 : Nat} {p p2 : Pos} {es : List Expr} {ds : List D} {c0 : Sl} (j : Nat) (hX : Fam T k X) (F : CFn T fn j0 Pre Po) (ha : JA T X ρ es ds) (hP : Pre c0 ds) (hm : ∀ a, hidOf c0 a → m a) (hr : ρ[j]? = some (some c0)) (hpl : plainE (ρ.set j none) = true) (q : ∀ d c', Po c0 ds d c' → Ψ d (ρ.set j (some c'))) (hj : j0 ≤ k := by decide)
    (hN : ∀ i, (X i).N[j]? = some x' := by intro _; rfl) (hv : ∀ i, Vis (X i).env.scope x' := by first | exact fun _ => Or.inl rfl | exact fun _ => Or.inr (Or.inl rfl) | exact fun _ => Or.inr (Or.inr rfl)) (hdb' : (x' == ("__debug__" : Str)) = false := by decide) (hcd : (x' == ("__classdict__" : Str)) = false := by decide)
    (hg : ∀ i, Gl (X i) fn := by intro _; rfl) (hdb : (fn == ("__debug__" : Str)) = false := by decide) (he : ∀ i, starEach (.Name x' p2 :: es) (X i).env = (false, eval (.Name x' p2) (X i).env) :: starEach es (X i).env := by intro _; rfl) (hpl2 : ∀ i, (backTo pos (starEach es (X i).env)).any (·.1) = false := by intro _; rfl) :
    JM T X m ρ (.Call (.Name fn p) (.Name x' p2 :: es) [] pos) Ψ := by
  obtain ⟨ta, pa, xa⟩ := ha
  obtain ⟨f, fd, ps0, G, hmg, hk, hb⟩ := F.ex
  refine ⟨tCall (SpC T Pre Po) [] E0 (tCons (tVar j) ta), fun i => pe_call (FnOk.castS (Y := X) hX i G) ((hX.room i).mono hj) (hg i) (by rw [hX.mg i]; exact hmg) (by rw [hX.K i]; exact hk) (by rw [hX.K i]; exact hb) .nil pass0 (pa_cons (pe_var (hN i) (hv i) hdb' hcd) (pa i) (he i)) hdb (he i) (hpl2 i), fun ps σ H ho hE Q kq => ?_⟩
  obtain ⟨v0, h1, h2⟩ := envR_get hE hr
  refine ⟨v0, h1, xa ps σ H ho.toHidOk hE _ fun vs H1 e1 r1 => ?_⟩
  refine ⟨ps, v0, vs, c0, ds, by rw [List.append_nil], (ho.monoE e1).toHidOk, h2.ext e1, r1, hP, fun d c' v H2 po e2 r2 r3 => ?_⟩
  have e2 : ExtM m H1 H2 := e2.sub hm
  have := EnvR.mut e2 ho.sub r2 j (hE.ext e1) hpl
  rw [set_same h1] at this
  exact kq v H2 d _ (e1.m.trans e2) this r3 (q d c' po)
/-- x.m(e): a method of Walk -/
structure WFn (T : Tx) (x : Str) (k : Nat) (Pre : Sl → List D → Prop) (Po : Sl → List D → D → Sl → Prop) : Prop where
  ex : ∃ g, Meth T.K T.cW x g ∧ FnR T.P T.w T.K T.mg T.base CX0 k g (SpC T Pre Po)
structure WOk (T : Tx) : Prop where
  sc : SlX.SCls T.K T.cW
  ch : ∃ p, SlX.Slot1 T.K T.cW "own_change" p 0
  nu : ∃ p, SlX.Slot1 T.K T.cW "own_numbers" p 1
theorem rel_cw {ps : Hid} {H : Hp} {w dx : Addr} {ch nu : D} {v : V} (h : RelS T H ps (some (.cw w dx ch nu)) (some v)) : v = .ref w ∧ CwR T H ps w dx ch nu := h
/-- e.m(..), e the cell in slot j -/
theorem jm_methC {x' nm : Str} {Pre : Sl → List D → Prop} {Po : Sl → List D → D → Sl → Prop} {j0 : Nat} {p2 apos : Pos} {es : List Expr} {ds : List D} {w dx : Addr} {ch nu : D} {pl : ι → Sem Bool} (j : Nat) (hX : Fam T k X) (W : WOk T) (F : WFn T nm j0 Pre Po) (ha : JA T X ρ (e :: es) ds) (hP : Pre (.cw w dx ch nu) ds) (hm : ∀ a, two w dx a → m a) (hr : ρ[j]? = some (some (.cw w dx ch nu))) (hpl : plainE (ρ.set j none) = true) (q : ∀ d c', Po (.cw w dx ch nu) ds d c' → Ψ d (ρ.set j (some c'))) (hj : j0 ≤ k := by decide)
    (hN : ∀ i, (X i).N[j]? = some x' := by intro _; rfl) (hv : ∀ i, Vis (X i).env.scope x' := by first | exact fun _ => Or.inl rfl | exact fun _ => Or.inr (Or.inl rfl) | exact fun _ => Or.inr (Or.inr rfl)) (hdb' : (x' == ("__debug__" : Str)) = false := by decide) (hcd : (x' == ("__classdict__" : Str)) = false := by decide)
    (he : ∀ i, starEach (e :: es) (X i).env = (false, eval e (X i).env) :: starEach es (X i).env := by intro _; rfl) (hpl2 : ∀ i, (backTo pos (starEach es (X i).env)).any (·.1) = false := by intro _; rfl)
    (ht : ∀ i, eval (.Call (.Attribute (.Name x' p2) nm apos) (e :: es) [] pos) (X i).env = (do
      let ov ← eval (.Name x' p2) (X i).env
      standAt apos.atName
      let (f, first) ← holding [ov] (getMethod ov nm (pl i))
      callWith pos f first (backTo pos (starEach (e :: es) (X i).env)) (backToKw pos (keywordEach [] (X i).env))) := by intro _; rfl) :
    JM T X m ρ (.Call (.Attribute (.Name x' p2) nm apos) (e :: es) [] pos) Ψ := by
  obtain ⟨ta, pa, xa⟩ := ha
  obtain ⟨g, hM, G⟩ := F.ex
  refine ⟨SlX.tMethSl T.cW (SpC T Pre Po) E0 (tVar j) ta, fun i => SlX.pe_methSl (pl := pl i) (pe_var (hN i) (hv i) hdb' hcd) (by rw [hX.K i]; exact W.sc) (by rw [hX.K i]; exact hM) (FnR.cast (Y := X) hX i G) ((hX.room i).mono hj) pass0 (pa i) (he i) (hpl2 i) (ht i), fun ps σ H ho hE Q kq => ?_⟩
  obtain ⟨v0, h1, h2⟩ := envR_get hE hr
  obtain ⟨rfl, h3⟩ := rel_cw h2
  obtain ⟨_, _, u1, u2, hs, _⟩ := id h3
  refine ⟨_, h1, w, dx, _, rfl, hs, xa ps σ H ho.toHidOk hE _ fun vs H1 e1 r1 => ?_⟩
  refine ⟨ps, .ref w, vs, .cw w dx ch nu, ds, rfl, (ho.monoE e1).toHidOk, h2.ext e1, r1, hP, fun d c' v H2 po e2 r2 r3 => ?_⟩
  have e2 : ExtM m H1 H2 := e2.sub hm
  have := EnvR.mut e2 ho.sub r2 j (hE.ext e1) hpl
  rw [set_same h1] at this
  exact kq v H2 d _ (e1.m.trans e2) this r3 (q d c' po)
/-- w.own_numbers, w.own_change -/
theorem je_cwNu {x' : Str} {p2 : Pos} {w dx : Addr} {ch nu : D} (j : Nat) (hX : Fam T k X) (W : WOk T) (hr : ρ[j]? = some (some (.cw w dx ch nu)) := by rfl) (hN : ∀ i, (X i).N[j]? = some x' := by intro _; rfl) (hv : ∀ i, Vis (X i).env.scope x' := by first | exact fun _ => Or.inl rfl | exact fun _ => Or.inr (Or.inl rfl) | exact fun _ => Or.inr (Or.inr rfl)) (hdb' : (x' == ("__debug__" : Str)) = false := by decide) (hcd : (x' == ("__classdict__" : Str)) = false := by decide)
    (hb : ∀ i, attributeBase (.Name x' p2) "own_numbers" (X i).env (eval (.Name x' p2) (X i).env) = eval (.Name x' p2) (X i).env := by intro _; rfl) : JE T X ρ (.Attribute (.Name x' p2) "own_numbers" pos) nu := by
  obtain ⟨p, sl⟩ := W.nu
  refine ⟨SlX.tSl T.K (tVar j) "own_numbers", fun i => by rw [← hX.K i]; exact SlX.pe_sl (pe_var (hN i) (hv i) hdb' hcd) (hb i), fun ps σ H hh hE Q q => ?_⟩
  obtain ⟨v0, h1, h2⟩ := envR_get hE hr
  obtain ⟨rfl, h3⟩ := rel_cw h2
  obtain ⟨_, _, u1, u2, hs, _, r2⟩ := id h3
  exact ⟨_, h1, w, T.cW, dx, p, _, 1, u2, rfl, hs, W.sc, sl, rfl, q u2 H (Ext.refl H) r2⟩
theorem je_cwCh {x' : Str} {p2 : Pos} {w dx : Addr} {ch nu : D} (j : Nat) (hX : Fam T k X) (W : WOk T) (hr : ρ[j]? = some (some (.cw w dx ch nu)) := by rfl) (hN : ∀ i, (X i).N[j]? = some x' := by intro _; rfl) (hv : ∀ i, Vis (X i).env.scope x' := by first | exact fun _ => Or.inl rfl | exact fun _ => Or.inr (Or.inl rfl) | exact fun _ => Or.inr (Or.inr rfl)) (hdb' : (x' == ("__debug__" : Str)) = false := by decide) (hcd : (x' == ("__classdict__" : Str)) = false := by decide)
    (hb : ∀ i, attributeBase (.Name x' p2) "own_change" (X i).env (eval (.Name x' p2) (X i).env) = eval (.Name x' p2) (X i).env := by intro _; rfl) : JE T X ρ (.Attribute (.Name x' p2) "own_change" pos) ch := by
  obtain ⟨p, sl⟩ := W.ch
  refine ⟨SlX.tSl T.K (tVar j) "own_change", fun i => by rw [← hX.K i]; exact SlX.pe_sl (pe_var (hN i) (hv i) hdb' hcd) (hb i), fun ps σ H hh hE Q q => ?_⟩
  obtain ⟨v0, h1, h2⟩ := envR_get hE hr
  obtain ⟨rfl, h3⟩ := rel_cw h2
  obtain ⟨_, _, u1, u2, hs, r1, _⟩ := id h3
  exact ⟨_, h1, w, T.cW, dx, p, _, 0, u1, rfl, hs, W.sc, sl, rfl, q u1 H (Ext.refl H) r1⟩
/-- a slot of the Walk is written: w.own_numbers = e, w.own_change = e -/
theorem extM_slH {H : Hp} {w dx C : Addr} {ws : List (Option V)} {o1 o2 : HO} (h1 : H w = some o1) (n1 : NoTbl o1) (h2 : H dx = some o2) (n2 : NoTbl o2) (hne : dx ≠ w) (hm : ∀ a, two w dx a → m a) : ExtM m H (SlX.slH H w C dx ws) := fun a o e => by
  by_cases z : a = w
  · subst z
    rw [h1] at e
    cases e
    exact ⟨_, upd_same, .inr ⟨hm _ (.inl rfl), n1⟩⟩
  · by_cases z2 : a = dx
    · subst z2
      rw [h2] at e
      cases e
      exact ⟨.xd [], by unfold SlX.slH; rw [upd_ne hne, upd_same], .inr ⟨hm _ (.inr rfl), n2⟩⟩
    · exact ⟨o, by rw [slH_other fun t => t.elim z z2]; exact e, .inl (.inl rfl)⟩
theorem slt_some {H : Hp} {w dx C : Addr} {u1 : Option V} {vs : List (Option V)} (h : SlX.Slt H w C dx (u1 :: vs)) : (∃ o1, H w = some o1 ∧ NoTbl o1) ∧ H dx = some (.xd []) ∧ dx ≠ w := by
  rcases h with ⟨_, h⟩ | ⟨h, h2⟩
  · cases h
  · refine ⟨⟨_, h, fun _ z => by unfold SlX.SlO at z; cases z⟩, h2, fun z => ?_⟩
    subst z
    rw [h] at h2
    exact SlX.slO_not (Option.some.inj h2)
theorem js_cwNu {x' : Str} {p2 p3 : Pos} {w dx : Addr} {ch nu : D} (j : Nat) (hX : Fam T k X) (W : WOk T) (he : JE T X ρ e d) (hm : ∀ a, two w dx a → m a) (hr : ρ[j]? = some (some (.cw w dx ch nu))) (hpl : plainE (ρ.set j none) = true) (q : Φ.nx (ρ.set j (some (.cw w dx ch d)))) (hN : ∀ i, (X i).N[j]? = some x' := by intro _; rfl) (hv : ∀ i, Vis (X i).env.scope x' := by first | exact fun _ => Or.inl rfl | exact fun _ => Or.inr (Or.inl rfl) | exact fun _ => Or.inr (Or.inr rfl)) (hdb' : (x' == ("__debug__" : Str)) = false := by decide) (hcd : (x' == ("__classdict__" : Str)) = false := by decide)
    (hs : ∀ i, swapsWith e (some (.Attribute (.Name x' p2) "own_numbers" p3)) pos.line (X i).env = pure false := by intro _; rfl) : JS T X m ρ (.Assign [.Attribute (.Name x' p2) "own_numbers" p3] e pos) Φ := by
  obtain ⟨te, pe, xe⟩ := he
  obtain ⟨p, sl⟩ := W.nu
  refine JS.of (ts := SlX.sSl T.K (tVar j) te "own_numbers") (fun i => by rw [← hX.K i]; exact SlX.ps_sl (pe_var (hN i) (hv i) hdb' hcd) (pe i) (hs i)) fun ps σ H D' ho hE im => xe ps σ H ho.toHidOk hE _ fun v H1 e1 r1 => ?_
  obtain ⟨v0, h1, h2⟩ := envR_get (hE.ext e1) hr
  obtain ⟨rfl, p1, pd, u1, u2, hsl, g1, g2⟩ := rel_cw h2
  obtain ⟨⟨o1, a1, a2⟩, a3, a4⟩ := slt_some hsl
  have e2 : ExtM m H1 (SlX.slH H1 w T.cW dx [some u1, some v]) := extM_slH a1 a2 a3 (fun _ z => nomatch z) a4 hm
  refine ⟨_, h1, w, T.cW, dx, p, [some u1, some u2], 1, rfl, hsl, W.sc, sl, im.nx _ _ _ (e1.m.trans e2) ?_ q⟩
  have rel : RelS T (SlX.slH H1 w T.cW dx [some u1, some v]) ps (some (.cw w dx ch d)) (some (.ref w)) := ⟨rfl, p1, pd, u1, v, SlX.slH_slt a4, by rw [del_slH p1 pd]; exact g1, by rw [del_slH p1 pd]; exact r1⟩
  have := EnvR.mut e2 ho.sub rel j (hE.ext e1) hpl
  rwa [set_same h1] at this
theorem js_cwCh {x' : Str} {p2 p3 : Pos} {w dx : Addr} {ch nu : D} (j : Nat) (hX : Fam T k X) (W : WOk T) (he : JE T X ρ e d) (hm : ∀ a, two w dx a → m a) (hr : ρ[j]? = some (some (.cw w dx ch nu))) (hpl : plainE (ρ.set j none) = true) (q : Φ.nx (ρ.set j (some (.cw w dx d nu)))) (hN : ∀ i, (X i).N[j]? = some x' := by intro _; rfl) (hv : ∀ i, Vis (X i).env.scope x' := by first | exact fun _ => Or.inl rfl | exact fun _ => Or.inr (Or.inl rfl) | exact fun _ => Or.inr (Or.inr rfl)) (hdb' : (x' == ("__debug__" : Str)) = false := by decide) (hcd : (x' == ("__classdict__" : Str)) = false := by decide)
    (hs : ∀ i, swapsWith e (some (.Attribute (.Name x' p2) "own_change" p3)) pos.line (X i).env = pure false := by intro _; rfl) : JS T X m ρ (.Assign [.Attribute (.Name x' p2) "own_change" p3] e pos) Φ := by
  obtain ⟨te, pe, xe⟩ := he
  obtain ⟨p, sl⟩ := W.ch
  refine JS.of (ts := SlX.sSl T.K (tVar j) te "own_change") (fun i => by rw [← hX.K i]; exact SlX.ps_sl (pe_var (hN i) (hv i) hdb' hcd) (pe i) (hs i)) fun ps σ H D' ho hE im => xe ps σ H ho.toHidOk hE _ fun v H1 e1 r1 => ?_
  obtain ⟨v0, h1, h2⟩ := envR_get (hE.ext e1) hr
  obtain ⟨rfl, p1, pd, u1, u2, hsl, g1, g2⟩ := rel_cw h2
  obtain ⟨⟨o1, a1, a2⟩, a3, a4⟩ := slt_some hsl
  have e2 : ExtM m H1 (SlX.slH H1 w T.cW dx [some v, some u2]) := extM_slH a1 a2 a3 (fun _ z => nomatch z) a4 hm
  refine ⟨_, h1, w, T.cW, dx, p, [some u1, some u2], 0, rfl, hsl, W.sc, sl, im.nx _ _ _ (e1.m.trans e2) ?_ q⟩
  have rel : RelS T (SlX.slH H1 w T.cW dx [some v, some u2]) ps (some (.cw w dx d nu)) (some (.ref w)) := ⟨rfl, p1, pd, v, u2, SlX.slH_slt a4, by rw [del_slH p1 pd]; exact r1, by rw [del_slH p1 pd]; exact g2⟩
  have := EnvR.mut e2 ho.sub rel j (hE.ext e1) hpl
  rwa [set_same h1] at this
/-! ### Walk(numbers) -/
def SpW0 (T : Tx) (R : D → D → D → Prop) : Sp := fun vs H Q _ => ∃ a dx v d ch nu ps, vs = [.ref a, v] ∧ H a = some (.ins T.cW dx []) ∧ H dx = some (.own a) ∧ dx ≠ a ∧ ps a ∧ ps dx ∧ HidOk T H ps ∧ Rep T (del H ps) d v ∧ R d ch nu ∧ ∀ H3, ExtM (two a dx) H H3 → CwR T H3 ps a dx ch nu → Q .non H3
structure MkW (T : Tx) (x : Str) (j : Nat) (R : D → D → D → Prop) : Prop where
  ex : ∃ f fd ps, Mk T.K T.cW f ∧ FnOk T.P T.w T.K T.mg T.base CX0 j f fd ps (SpW0 T R) ∧ Binds T.K fd ps [] ∧ T.mg x = some (.ref T.cW)
/-- self.own_numbers = e; self.own_change = e2 -/
theorem mkw_mk {x' nm qual pn : Str} {st : Stmt} {f : Addr} {fd : FuncData} {R : D → D → D → Prop} {p1 p2 p3 q1 q2 q3 : Pos} {v1 v2 : Expr} (F : FunX T nm qual st f fd) (S : FnScope ["self", pn] ["self", pn] (defScope st)) (M : Mk T.K T.cW f) (hb : Binds T.K fd ["self", pn] []) (hm : T.mg x' = some (.ref T.cW))
    (W : WOk T) (hbody : defBody st = [.Assign [.Attribute (.Name "self" p1) "own_numbers" p2] v1 p3, .Assign [.Attribute (.Name "self" q1) "own_change" q2] v2 q3])
    (he : ∀ (cdv : Value) (A : Around) (outer : List Env) (s : Shared) (H : Hp) (E : XK) (self : V), Fam T k (XB T ["self", pn] qual st f cdv A outer s H E) → ∀ d ch nu, R d ch nu → JE T (XB T ["self", pn] qual st f cdv A outer s H E) [some (.raw self), some (.d d)] v1 nu ∧ JE T (XB T ["self", pn] qual st f cdv A outer s H E) [some (.raw self), some (.d d)] v2 ch)
    (hs1 : ∀ (cdv : Value) (A : Around) (outer : List Env) (s : Shared) (H : Hp) (E : XK), swapsWith v1 (some (.Attribute (.Name "self" p1) "own_numbers" p2)) p3.line (XB T ["self", pn] qual st f cdv A outer s H E ()).env = pure false := by intros; rfl)
    (hs2 : ∀ (cdv : Value) (A : Around) (outer : List Env) (s : Shared) (H : Hp) (E : XK), swapsWith v2 (some (.Attribute (.Name "self" q1) "own_change" q2)) q3.line (XB T ["self", pn] qual st f cdv A outer s H E ()).env = pure false := by intros; rfl) : MkW T x' (k + 1) R := by
  refine ⟨f, fd, ["self", pn], M, F.ok S (fun vs H Q E h => ?_) (fun cdv A outer s H vs Q E _ hr h => ?_), hb, hm⟩
  · obtain ⟨_, _, _, _, _, _, _, rfl, _⟩ := h
    rfl
  · obtain ⟨a, dx, v, d, ch, nu, ps, rfl, ha, hd, hne, pa, pd, ho, r, hR, q⟩ := h
    have fam : Fam T k (XB T ["self", pn] qual st f cdv A outer s H E) := ⟨fun _ => rfl, fun _ => rfl, fun _ => rfl, fun _ => rfl, fun _ => rfl, fun _ => rfl, fun _ => hr⟩
    obtain ⟨⟨te, pe, xe⟩, te2, pe2, xe2⟩ := he cdv A outer s H E (.ref a) fam d ch nu hR
    obtain ⟨p, sl⟩ := W.nu
    obtain ⟨p', sl'⟩ := W.ch
    have hself : Vis (defScope st) "self" := (S.par "self" (by simp)).elim .inl fun z => .inr (.inl z)
    refine ⟨tSeq (SlX.sSl T.K (tVar 0) te "own_numbers") (SlX.sSl T.K (tVar 0) te2 "own_change"), ?_, ?_⟩
    · rw [hbody]
      exact pss_cons (SlX.ps_sl (X := XB T ["self", pn] qual st f cdv A outer s H E ()) (pe_var (i := 0) rfl hself (by decide) (by decide)) (pe ()) (hs1 cdv A outer s H E))
        (pss_one (SlX.ps_sl (X := XB T ["self", pn] qual st f cdv A outer s H E ()) (pe_var (i := 0) rfl hself (by decide) (by decide)) (pe2 ()) (hs2 cdv A outer s H E)))
    · have hE : EnvR T H ps [some (.raw (.ref a)), some (.d d)] [some (.ref a), some v] := .cons (show V.ref a = V.ref a from rfl) (.cons (show Rep T (del H ps) d v from r) .nil)
      refine xe ps _ H ho hE _ fun w H1 e1 r1 => ?_
      have ha1 : H1 a = some (.ins T.cW dx []) := e1.at ha fun _ z => nomatch z
      have hd1 : H1 dx = some (.own a) := e1.at hd fun _ z => nomatch z
      refine ⟨.ref a, rfl, a, T.cW, dx, p, [], 1, rfl, .inl ⟨ha1, rfl⟩, W.sc, sl, ?_⟩
      have e2 : ExtM (two a dx) H1 (SlX.slH H1 a T.cW dx [none, some w]) := extM_slH ha1 (fun _ z => nomatch z) hd1 (fun _ z => nomatch z) hne fun _ z => z
      have sub : ∀ z, two a dx z → ps z := fun z h => h.elim (fun e => e ▸ pa) fun e => e ▸ pd
      have ho2 := (ho.mono e1).monoM e2
      refine xe2 ps _ _ ho2 (EnvR.mutAll e2 sub (hE.ext e1) rfl) _ fun w2 H2 e3 r3 => ?_
      have hs2 : SlX.Slt H2 a T.cW dx [none, some w] := slt_ext e3 (SlX.slH_slt hne)
      refine ⟨.ref a, rfl, a, T.cW, dx, p', [none, some w], 0, rfl, hs2, W.sc, sl', ?_⟩
      obtain ⟨⟨o1, b1, b2⟩, b3, b4⟩ := slt_some hs2
      have e4 : ExtM (two a dx) H2 (SlX.slH H2 a T.cW dx [some w2, some w]) := extM_slH b1 b2 b3 (fun _ z => nomatch z) hne fun _ z => z
      refine q _ (((e1.m.trans e2).trans e3.m).trans e4) ⟨pa, pd, w2, w, SlX.slH_slt hne, ?_, ?_⟩
      · rw [del_slH pa pd]; exact r3
      · rw [del_slH pa pd]
        exact Rep.ext (e3.del ps) _ _ (by rw [del_slH pa pd]; exact r1)
end
end Fr
namespace Fr
open PySem PySem.Spec PyProof.Rows L2 StX
section
variable {T : Tx} {ι : Type} {X : ι → Cx} {m : Hid} {ρ : En} {k : Nat} {a b c e : Expr} {pos : Pos} {x y d d' : D} {Φ : Pst} {Ψ : D → En → Prop} {rest : List Stmt}
/-! ### walk, places = Walk(x), e -/
theorem jss_openWalk (j1 j2 : Nat) {R : D → D → D → Prop} {j0 : Nat} {x' y' cls : Str} {px py pt pc pcall : Pos} {kt k2 pt2} {e1 : Expr} {ch nu : D} (hX : Fam T k X) (W : WOk T) (M : MkW T cls j0 R) (hN : ∀ i, (X i).N.Nodup) (h1 : JE T X ρ e1 d) (h : JE T X ρ e d') (hR : R d ch nu) (hj : j0 + 1 ≤ k)
    (hr : ∀ w dx, JSs T X (orH m (two w dx)) ((ρ.set j1 (some (.cw w dx ch nu))).set j2 (some (.d d'))) rest (OpenPst (two w dx) Φ))
    (hi : ∀ i, (X i).N[j1]? = some x' := by intro _; rfl) (hjj : ∀ i, (X i).N[j2]? = some y' := by intro _; rfl) (hij : j1 ≠ j2 := by decide)
    (hx : ∀ i, (X i).env.scope.names.lookup x' = some .local := by intro _; rfl) (hy : ∀ i, (X i).env.scope.names.lookup y' = some .local := by intro _; rfl)
    (hg : ∀ i, Gl (X i) cls := by intro _; rfl) (hdb : (cls == ("__debug__" : Str)) = false := by decide) (hs1 : ∀ i, starEach [e1] (X i).env = (false, eval e1 (X i).env) :: starEach [] (X i).env := by intro _; rfl)
    (he1 : ∀ i, starEach [.Call (.Name cls pc) [e1] [] pcall, e] (X i).env = (false, eval (.Call (.Name cls pc) [e1] [] pcall) (X i).env) :: starEach [e] (X i).env := by intro _; rfl) (he2 : ∀ i, starEach [e] (X i).env = (false, eval e (X i).env) :: starEach [] (X i).env := by intro _; rfl)
    (hw : ∀ i, swappedStores [.Tuple [.Name x' px, .Name y' py] kt pt] (.Tuple [.Call (.Name cls pc) [e1] [] pcall, e] k2 pt2) (X i).env = pure (some [x', y']) := by intro _; rfl)
    (hs : ∀ i, swapsWithSole [.Tuple [.Name x' px, .Name y' py] kt pt] (.Tuple [.Call (.Name cls pc) [e1] [] pcall, e] k2 pt2) pos.line (X i).env = pure false := by intro _; rfl) :
    JSs T X m ρ (.Assign [.Tuple [.Name x' px, .Name y' py] kt pt] (.Tuple [.Call (.Name cls pc) [e1] [] pcall, e] k2 pt2) pos :: rest) Φ := by
  obtain ⟨te1, pe1, xe1⟩ := h1
  obtain ⟨te, pe, xe⟩ := h
  obtain ⟨f, fd, ps0, MM, F, hb, hm⟩ := M.ex
  refine JSs.of (fun i => pss_cons (ps_par (hX.calm i) (hN i) (hi i) (hjj i) hij (hx i) (hy i) (pa_cons (pe_make (C := T.cW) (f := f) (sp := SpW0 T R) (CX := CX0) (E := E0) (by rw [hX.K i]; exact MM) (FnOk.castS (Y := X) hX i F) ((hX.room i).mono hj) (hg i) (by rw [hX.mg i]; exact hm) (by rw [hX.K i]; exact hb) .nil pass0 (pa_cons (pe1 i) pa_nil (hs1 i)) hdb (hs1 i) rfl) (pa_cons (pe i) pa_nil (he2 i)) (he1 i)) (hw i) (hs i)) (can_pss rest i)) fun ps σ H D' ho hE im => xe1 ps σ H ho.toHidOk hE _ fun v H1 e1 r1 => ?_
  intro xa dx hx hd hne
  have hf := two_fresh hx hd
  have hnp : ∀ z, two xa dx z → ¬ ps z := fun z h w => (ho.monoE e1).there z w (hf z h)
  have e2 : Ext H1 (upd (upd H1 dx (.own xa)) xa (.ins T.cW dx [])) := new_two hf
  have e12 := e1.trans e2
  have fr : ∀ z, two xa dx z → H z = none := fun z h => e1.free (hf z h)
  have ho2 : HM T (orH m (two xa dx)) _ (orH ps (two xa dx)) := hm_open ho e12.m fun z h => by
    rcases h with rfl | rfl
    · rw [upd_same]; exact fun z => nomatch z
    · rw [upd_ne hne, upd_same]; exact fun z => nomatch z
  refine ⟨xa, dx, v, d, ch, nu, orH ps (two xa dx), rfl, upd_same, by rw [upd_ne hne, upd_same], hne, .inr (.inl rfl), .inr (.inr rfl), ho2.toHidOk, Rep.ext (ext_hide (n := two xa dx) hf e2) _ _ r1, hR, fun H3 e3 cw => ⟨rfl, ?_⟩⟩
  have e3' : ExtM (orH m (two xa dx)) _ H3 := e3.sub fun _ z => .inr z
  have hE2 : EnvR T _ (orH ps (two xa dx)) ρ σ := hE.hide (n := two xa dx) fr e12
  have ho3 := ho2.mono e3'
  have hE3 : EnvR T H3 (orH ps (two xa dx)) ρ σ := by
    refine Paired.mapP hE fun x y r => ?_
    have : RelS T H3 (orH ps (two xa dx)) x y := by
      have hx3 : Ext H H3 := by
        have := (e12.m (m := two xa dx)).trans e3
        exact this.ext fr
      exact r.hide (n := two xa dx) fr hx3
    exact this
  refine xe (orH ps (two xa dx)) σ H3 ho3.toHidOk hE3 _ fun u H4 e4 r4 => ⟨_, u, rfl, ?_⟩
  have eall : ExtM m H H4 := by
    have h1 : ExtM (two xa dx) H H4 := (e12.m.trans e3).trans e4.m
    exact (h1.ext fr).m
  have cw4 : RelS T H4 (orH ps (two xa dx)) (some (.cw xa dx ch nu)) (some (.ref xa)) := ⟨rfl, cw.ext e4⟩
  exact hr xa dx _ _ _ _ (ho3.monoE e4) (envR_set (x := some (.d d')) (v := some u) r4 j2 (envR_set cw4 j1 (hE3.ext e4))) (imp_open ho eall fr im)
/-! ### JM: in statements and expressions -/
theorem js_exprM (h : JM T X m ρ e Ψ) (q : ∀ d ρ', Ψ d ρ' → Φ.nx ρ') (hs : ∀ i, swapsWith e none pos.line (X i).env = pure false := by intro _; rfl) : JS T X m ρ (.Expr e pos) Φ := by
  obtain ⟨te, p, xe⟩ := h
  exact JS.of (fun i => ps_expr (p i) (hs i)) fun ps σ H D' ho hE im => xe ps σ H ho hE _ fun v H1 d ρ' e1 r r1 z => im.nx σ H1 ρ' e1 r (q d ρ' z)
theorem js_retM (h : JM T X m ρ e Ψ) (q : ∀ d ρ', Ψ d ρ' → Φ.rt (.d d) ρ') : JS T X m ρ (.Return (some e) pos) Φ := by
  obtain ⟨te, p, xe⟩ := h
  exact JS.of (fun i => ps_ret (p i)) fun ps σ H D' ho hE im => xe ps σ H ho hE _ fun v H1 d ρ' e1 r r1 z => im.rt v H1 (.d d) σ ρ' e1 r r1 (q d ρ' z)
theorem js_setM (j : Nat) {x' : Str} {pos' : Pos} (h : JM T X m ρ e Ψ) (q : ∀ d ρ', Ψ d ρ' → Φ.nx (ρ'.set j (some (.d d)))) (hN : ∀ i, (X i).N.Nodup) (hi : ∀ i, (X i).N[j]? = some x' := by intro _; rfl) (hx : ∀ i, Loc (X i).env.scope x' := by first | exact fun _ => Or.inl rfl | exact fun _ => Or.inr rfl)
    (hs : ∀ i, swapsWith e (some (.Name x' pos')) pos.line (X i).env = pure false := by intro _; rfl) (hf : ∀ i, (X i).fn x' = true ∨ (X i).env.scope.names.lookup x' = some .local := by first | exact fun _ => .inl rfl | exact fun _ => .inr rfl) : JS T X m ρ (.Assign [.Name x' pos'] e pos) Φ := by
  obtain ⟨te, p, xe⟩ := h
  exact JS.of (fun i => ps_set (hN i) (hi i) (hx i) (p i) (hs i) (hf i)) fun ps σ H D' ho hE im => xe ps σ H ho hE _ fun v H1 d ρ' e1 r r1 z => im.nx _ H1 _ e1 (envR_set (x := some (.d d)) (v := some v) r1 j r) (q d ρ' z)
/-- if not e: -/
theorem js_ifNotM {p2 : Pos} {s1 s2 : List Stmt} (h : JM T X m ρ e Ψ) (hb : ∀ d ρ', Ψ d ρ' → ∃ c, d = .bl c ∧ (c = false → JSs T X m ρ' s1 Φ) ∧ (c = true → JSs T X m ρ' s2 Φ)) (he : ∀ i whole, isTrue e (X i).env whole = (do let v ← whole; standAt e.pos; holding [v] (truthy v)) := by intro _ _; rfl) : JS T X m ρ (.If (.UnaryOp .Not e p2) s1 s2 pos) Φ := by
  obtain ⟨te, p, xe⟩ := h
  refine JS.of (fun i => ps_if (pt_not (pt_val (p i) (he i))) (can_pss s1 i) (can_pss s2 i)) fun ps σ H D' ho hE im => xe ps σ H ho hE _ fun v H1 d ρ' e1 r r1 z => ?_
  obtain ⟨c, rfl, h1, h2⟩ := hb d ρ' z
  refine ⟨c, rep_bl.mp r1, ?_⟩
  cases c with
  | true =>
    rw [if_neg (by decide)]
    exact h2 rfl ps σ H1 D' (ho.mono e1) r (im.ext e1)
  | false =>
    rw [if_pos (by decide)]
    exact h1 rfl ps σ H1 D' (ho.mono e1) r (im.ext e1)
/-- a + e -/
theorem jm_addL {Ω : D → En → Prop} {i : Int} (ha : JE T X ρ a (.int i)) (hb : JM T X m ρ b Ω) (q : ∀ d ρ', Ω d ρ' → ∃ j, d = .int j ∧ Ψ (.int (i + j)) ρ') : JM T X m ρ (.BinOp a .Add b pos) Ψ := by
  obtain ⟨ta, pa, xa⟩ := ha
  obtain ⟨tb, pb, xb⟩ := hb
  refine ⟨_, fun i => pe_op op_add (pa i) (pb i), fun ps σ H ho hE Q k => xa ps σ H ho.toHidOk hE _ fun v H1 e1 r1 => xb ps σ H1 (ho.monoE e1) (hE.ext e1) _ fun u H2 d ρ' e2 r r2 z => ?_⟩
  obtain ⟨j, rfl, w⟩ := q d ρ' z
  exact ⟨i, j, rep_int.mp r1, rep_int.mp r2, k _ H2 _ ρ' (e1.m.trans e2) r (rep_int.mpr rfl) w⟩
/-- a[e], a a list of data -/
theorem jm_ixL {Ω : D → En → Prop} {l : List D} (hX : Fam T k X) (ha : JE T X ρ a (.lst l)) (hb : JM T X m ρ b Ω) (q : ∀ d ρ', Ω d ρ' → ∃ n : Nat, ∃ z, d = .int n ∧ l[n]? = some z ∧ Ψ z ρ') (hs : PlainIx b := by exact fun _ _ => rfl) : JM T X m ρ (.Subscript a b pos) Ψ := by
  obtain ⟨ta, pa, xa⟩ := ha
  obtain ⟨tb, pb, xb⟩ := hb
  refine ⟨tOp (rIxL T.K) ta tb, fun i => pe_ix (IxR.cast (f := rIxL) (hX.K i) ix_list) (pa i) (pb i) hs, fun ps σ H ho hE Q kq => xa ps σ H ho.toHidOk hE _ fun v H1 e1 r1 => xb ps σ H1 (ho.monoE e1) (hE.ext e1) _ fun u H2 d ρ' e2 r r2 z => ?_⟩
  obtain ⟨n, y, rfl, hn, w⟩ := q d ρ' z
  have r1 := Rep.ext (e2.del ho.sub) _ _ r1
  obtain ⟨p, vs, rfl, s, rs⟩ := rep_lst.mp r1
  obtain ⟨v2, e3, r3⟩ := reps_get rs hn
  exact ⟨p, vs, n, v2, rfl, rep_int.mp r2, sqL_ext ext_del s, atI_nat e3, kq v2 H2 y ρ' (e1.m.trans e2) r r3 w⟩
/-- f(e) -/
theorem jm_call1 {Ω : D → En → Prop} {x' : Str} {R : List D → D → Prop} {j : Nat} {p : Pos} (hX : Fam T k X) (F : PFn T x' j R) (ha : JM T X m ρ e Ω) (q : ∀ d ρ', Ω d ρ' → ∃ z, R [d] z ∧ Ψ z ρ') (hj : j ≤ k := by decide) (hg : ∀ i, Gl (X i) x' := by intro _; rfl)
    (hdb : (x' == ("__debug__" : Str)) = false := by decide) (he : ∀ i, starEach [e] (X i).env = (false, eval e (X i).env) :: starEach [] (X i).env := by intro _; rfl) : JM T X m ρ (.Call (.Name x' p) [e] [] pos) Ψ := by
  obtain ⟨te, pe, xe⟩ := ha
  obtain ⟨f, fd, ps0, G, hm, hk, hb⟩ := F.ex
  refine ⟨tCall (SpP T R) [] E0 (tCons te tNil), fun i => pe_call (FnOk.castS (Y := X) hX i G) ((hX.room i).mono hj) (hg i) (by rw [hX.mg i]; exact hm) (by rw [hX.K i]; exact hk) (by rw [hX.K i]; exact hb) .nil pass0 (pa_cons (pe i) pa_nil (he i)) hdb (he i) rfl, fun ps σ H ho hE Q kq => xe ps σ H ho hE _ fun v H1 d ρ' e1 r r1 w => ?_⟩
  obtain ⟨z, h1, h2⟩ := q d ρ' w
  exact ⟨ps, [d], z, (ho.mono e1).toHidOk, reps_cons.mpr ⟨v, [], rfl, r1, reps_nil.mpr rfl⟩, h1, fun u H2 e2 r2 => kq u H2 z ρ' (e1.trans e2.m) (r.ext e2) r2 h2⟩
/-- c and e -/
theorem jm_and {c0 : Bool} {p2 : Pos} (ha : JE T X ρ a (.bl c0)) (hf : c0 = false → Ψ (.bl false) ρ) (hb : c0 = true → JM T X m ρ (.BoolOp .And (b :: []) p2) Ψ) : JM T X m ρ (.BoolOp .And [a, b] p2) Ψ := by
  obtain ⟨ta, pa, xa⟩ := ha
  cases c0 with
  | true =>
    obtain ⟨tb, pb, xb⟩ := hb rfl
    exact ⟨_, fun i => pe_and (pa i) (pb i), fun ps σ H ho hE Q k => xa ps σ H ho.toHidOk hE _ fun v H1 e1 r1 => ⟨true, rep_bl.mp r1, by
      rw [if_pos rfl]
      exact xb ps σ H1 (ho.monoE e1) (hE.ext e1) Q fun u H2 d ρ' e2 => k u H2 d ρ' (e1.m.trans e2)⟩⟩
  | false =>
    exact ⟨_, fun i => pe_and (pa i) (can_pe _ i), fun ps σ H ho hE Q k => xa ps σ H ho.toHidOk hE _ fun v H1 e1 r1 => ⟨false, rep_bl.mp r1, by
      rw [if_neg Bool.false_ne_true]
      exact k _ H1 (.bl false) ρ e1.m (hE.ext e1) (rep_bl.mpr rfl) (hf rfl)⟩⟩
theorem jm_one {op} {p2 : Pos} (h : JM T X m ρ a Ψ) : JM T X m ρ (.BoolOp op [a] p2) Ψ := by
  obtain ⟨t, p, xe⟩ := h
  exact ⟨t, fun i => pe_one (p i), xe⟩
theorem JM.mono {Ω : D → En → Prop} (h : JM T X m ρ e Ω) (q : ∀ d ρ', Ω d ρ' → Ψ d ρ') : JM T X m ρ e Ψ := by
  obtain ⟨t, p, xe⟩ := h
  exact ⟨t, p, fun ps σ H ho hE Q k => xe ps σ H ho hE Q fun v H' d ρ' e1 r1 r2 z => k v H' d ρ' e1 r1 r2 (q d ρ' z)⟩
end
/-! ### a def that hands back a new list -/
def SpN (T : Tx) (Pre : List D → Prop) (Po : List D → List D → Prop) : Sp := fun vs H Q _ => ∃ ps ds, HidOk T H ps ∧ Reps T (del H ps) ds vs ∧ Pre ds ∧ ∀ l L vs' H', Po ds l → Ext H H' → H L = none → H' L = some (.lst vs') → Reps T (del H' (orH ps (one L))) l vs' → Q (.ref L) H'
structure NFn (T : Tx) (x : Str) (k : Nat) (Pre : List D → Prop) (Po : List D → List D → Prop) : Prop where
  ex : ∃ f fd ps, FnOk T.P T.w T.K T.mg T.base CX0 k f fd ps (SpN T Pre Po) ∧ T.mg x = some (.ref f) ∧ PySem.W.keepIn T.K (.ref f) = true ∧ Binds T.K fd ps []
theorem fn_mkN {T : Tx} {x qual : Str} {st : Stmt} {f : Addr} {fd : FuncData} {N ps : List Str} {k : Nat} {Pre : List D → Prop} {Po : List D → List D → Prop} (F : FunX T x qual st f fd) (S : FnScope N ps (defScope st)) (len : ∀ ds, Pre ds → ds.length = ps.length)
    (body : ∀ (cdv : Value) (A : Around) (outer : List Env) (s : Shared) (H : Hp) (E : XK), Fam T k (XB T N qual st f cdv A outer s H E) → ∀ ds, Pre ds → JSs T (XB T N qual st f cdv A outer s H E) noM (startE N ds) (defBody st) { nx := fun _ => False, rt := fun x _ => ∃ l, x = .new l ∧ Po ds l }) : FnOk T.P T.w T.K T.mg T.base CX0 (k + 1) f fd ps (SpN T Pre Po) := by
  refine F.ok S (fun vs H Q E h => ?_) (fun cdv A outer s H vs Q E _ hr h => ?_)
  · obtain ⟨_, ds, _, r, q, _⟩ := h
    rw [reps_len r, len ds q]
  · obtain ⟨ps, ds, ho, r, q, kk⟩ := h
    have fam : Fam T k (XB T N qual st f cdv A outer s H E) := ⟨fun _ => rfl, fun _ => rfl, fun _ => rfl, fun _ => rfl, fun _ => rfl, fun _ => rfl, fun _ => hr⟩
    refine ⟨canSs (XB T N qual st f cdv A outer s H E) (defBody st), can_pss (X := XB T N qual st f cdv A outer s H E) (defBody st) (), ?_⟩
    refine body cdv A outer s H E fam ds q ps _ H _ ⟨ho, fun _ z => z.elim⟩ (envR_start r) ⟨fun σ' H' ρ' e r' z => z.elim, fun v H' x' σ' ρ' e r' w z => ?_, fun _ _ _ _ _ z => z.elim, fun _ _ _ _ _ z => z.elim⟩
    obtain ⟨l, rfl, h2⟩ := z
    obtain ⟨L, vs', rfl, h3, h4, h5⟩ := w
    exact kk l L vs' H' h2 (e.ext fun _ z => z.elim) h3 h4 h5
/-- x = f(..), f hands back a new list -/
theorem jss_openCall {T : Tx} {ι : Type} {X : ι → Cx} {m : Hid} {ρ : En} {k j0 : Nat} {pos : Pos} {Φ : Pst} {rest : List Stmt} (j : Nat) {e : Expr} {es : List Expr} {ds : List D} {x' fn : Str} {p p2 pos' : Pos} {Pre : List D → Prop} {Po : List D → List D → Prop} (hX : Fam T k X) (F : NFn T fn j0 Pre Po) (h : JA T X ρ (e :: es) ds) (hP : Pre ds) (hN : ∀ i, (X i).N.Nodup) (hr : ∀ l L, Po ds l → JSs T X (orH m (one L)) (ρ.set j (some (.cl L l))) rest (OpenPst (one L) Φ)) (hj : j0 ≤ k := by decide)
    (hi : ∀ i, (X i).N[j]? = some x' := by intro _; rfl) (hx : ∀ i, Loc (X i).env.scope x' := by first | exact fun _ => Or.inl rfl | exact fun _ => Or.inr rfl)
    (hg : ∀ i, Gl (X i) fn := by intro _; rfl) (hdb : (fn == ("__debug__" : Str)) = false := by decide) (he : ∀ i, starEach (e :: es) (X i).env = (false, eval e (X i).env) :: starEach es (X i).env := by intro _; rfl) (hpl : ∀ i, (backTo pos' (starEach es (X i).env)).any (·.1) = false := by intro _; rfl)
    (hs : ∀ i, swapsWith (.Call (.Name fn p2) (e :: es) [] pos') (some (.Name x' p)) pos.line (X i).env = pure false := by intro _; rfl) (hf : ∀ i, (X i).fn x' = true ∨ (X i).env.scope.names.lookup x' = some .local := by first | exact fun _ => .inl rfl | exact fun _ => .inr rfl) :
    JSs T X m ρ (.Assign [.Name x' p] (.Call (.Name fn p2) (e :: es) [] pos') pos :: rest) Φ := by
  obtain ⟨ta, pa, xa⟩ := h
  obtain ⟨f, fd, ps0, G, hm, hk, hb⟩ := F.ex
  refine JSs.of (fun i => pss_cons (ps_set (hN i) (hi i) (hx i) (pe_call (sp := SpN T Pre Po) (E := E0) (FnOk.castS (Y := X) hX i G) ((hX.room i).mono hj) (hg i) (by rw [hX.mg i]; exact hm) (by rw [hX.K i]; exact hk) (by rw [hX.K i]; exact hb) .nil pass0 (pa i) hdb (he i) (hpl i)) (hs i) (hf i)) (can_pss rest i)) fun ps σ H D' ho hE im => xa ps σ H ho.toHidOk hE _ fun vs H1 e1 r1 => ?_
  rw [List.append_nil]
  refine ⟨ps, ds, (ho.monoE e1).toHidOk, r1, hP, fun l L vs' H2 po e2 h1 h2 h3 => ?_⟩
  have e12 := e1.trans e2
  have fr : H L = none := e1.free h1
  have ho2 : HM T (orH m (one L)) H2 (orH ps (one L)) := hm_open ho e12.m fun a z => by rw [z, h2]; exact fun z => nomatch z
  exact hr l L po _ _ _ _ ho2 (envR_set (x := some (.cl L l)) (v := some (.ref L)) ⟨rfl, .inr rfl, vs', h2, h3⟩ j (hE.hide (n := one L) (hid_one fr) e12)) (imp_open ho e12.m (hid_one fr) im)
end Fr
namespace Fr
open PySem PySem.Spec PyProof.Rows L2 StX
/-! ### sorted of pairs of ints, written or made -/
def PrAt (K : PySem.W.Frag) (H : Hp) (x : V) (k : Int × Int) : Prop := ∃ t, x = .ref t ∧ SqT K H t [.int k.1, .int k.2]
theorem isPair_inj {h : Heap} {v : Value} {p q : Int × Int} (a : Srt.IsPair h v p.1 p.2) (b : Srt.IsPair h v q.1 q.2) : p = q := by
  obtain ⟨a1, o, t, u, n, rfl, ho, hc, hd⟩ := a
  obtain ⟨a2, o', t', u', n', e, ho', hc', hd'⟩ := b
  cases e
  rw [ho] at ho'
  cases ho'
  rw [hd] at hd'
  injection hd' with h1 _
  have h1 : [Value.int p.1 t, Value.int p.2 u] = [Value.int q.1 t', Value.int q.2 u'] := congrArg Array.toList h1
  injection h1 with h1 h2
  injection h1 with h1 _
  injection h2 with h2 _
  injection h2 with h2 _
  exact Prod.ext h1 h2
open Classical in
noncomputable def keyOf (h : Heap) (v : Value) : Int × Int := if e : ∃ p : Int × Int, Srt.IsPair h v p.1 p.2 then e.choose else (0, 0)
theorem keyOf_eq {h : Heap} {v : Value} {p : Int × Int} (a : Srt.IsPair h v p.1 p.2) : keyOf h v = p := by
  unfold keyOf
  have e : ∃ p : Int × Int, Srt.IsPair h v p.1 p.2 := ⟨p, a⟩
  rw [dif_pos e]
  exact isPair_inj e.choose_spec a
def rSortPr (K : PySem.W.Frag) : List V → Hp → VK → Prop := fun vs H Q => ∃ (a : Addr) (xs : List V) (ks : List (Int × Int)), vs = [V.ref a] ∧ SqL K H a xs ∧ Paired (PrAt K H) xs ks ∧
  ∀ (zs : List (V × (Int × Int))) (p : Addr), zs.Perm (xs.zip ks) → (zs.map (·.2)).Pairwise (fun a b => SrtO.lexB b a = false) → H p = none → Q (.ref p) (upd H p (.lst (zs.map (·.1))))
theorem prAt_pair {X : Cx} {pins : List (Addr × Obj)} {σ : L2.St} {H : Hp} {s : Shared} (I : Inv X pins σ H s) {x : V} {k : Int × Int} {u : Value} (h : PrAt X.K H x k) (r : RelV x u) : Srt.IsPair s.heap u k.1 k.2 ∧ x = backV u := by
  obtain ⟨t, rfl, h⟩ := h
  cases r
  obtain ⟨its, rv, ⟨o, ho, hc, n, hd⟩, _⟩ := I.tuple h
  obtain ⟨u1, u2, rfl, ri, rj⟩ := vals2 rv
  obtain ⟨t1, rfl⟩ := ri
  obtain ⟨t2, rfl⟩ := rj
  exact ⟨⟨t, o, t1, t2, n, rfl, ho, hc, hd⟩, rfl⟩
theorem prs_keys {X : Cx} {pins : List (Addr × Obj)} {σ : L2.St} {H : Hp} {s : Shared} (I : Inv X pins σ H s) : ∀ {xs : List V} {ks : List (Int × Int)} {us : List Value}, Paired (PrAt X.K H) xs ks → Vals xs us → ks = us.map (keyOf s.heap) ∧ xs = us.map backV ∧ ∀ u ∈ us, PrAt X.K H (backV u) (keyOf s.heap u) ∧ Srt.IsPair s.heap u (keyOf s.heap u).1 (keyOf s.heap u).2 ∧ ∃ a, u = Value.ref a
  | _, _, _, .nil, .nil => ⟨rfl, rfl, fun u hu => absurd hu (by simp)⟩
  | x :: xs, k :: ks, u :: us, .cons h t, .cons r rt => by
    obtain ⟨h1, h2, h3⟩ := prs_keys I t rt
    obtain ⟨p1, p2⟩ := prAt_pair I h r
    have e := keyOf_eq p1
    refine ⟨by rw [List.map_cons, e, ← h1], by rw [List.map_cons, ← p2, ← h2], fun v hv => ?_⟩
    rcases List.mem_cons.mp hv with rfl | hv
    · rw [e, ← p2]
      obtain ⟨a, _, _, _, _, e2, _⟩ := id p1
      exact ⟨h, p1, a, e2⟩
    · exact h3 v hv
theorem zip_maps {α β γ : Type} {f : α → β} {g : α → γ} : ∀ (l : List α), (l.map f).zip (l.map g) = l.map fun u => (f u, g u)
  | [] => rfl
  | a :: l => by rw [List.map_cons, List.map_cons, List.zip_cons_cons, zip_maps l, List.map_cons]
theorem cr_sortPr {X : Cx} : CallR X (.builtin "sorted") (rSortPr X.K) := by
  intro pins s σ H vs us Q I r h
  obtain ⟨a, xs, ks, rfl, hs, hx, q⟩ := h
  obtain ⟨its, rv, hl, hz⟩ := I.list hs
  obtain ⟨u, rfl, ru⟩ := vals1 r
  obtain rfl : u = Value.ref a := ru
  obtain ⟨e1, e2, e3⟩ := prs_keys I hx rv
  refine SrtO.sorted_pairsO (k := keyOf s.heap) hl.isList (by rw [← rv.length]; exact hz) (fun v hv => (e3 v hv).2.1) fun h' d out h1 h2 kp hd hn => ?_
  have mem : ∀ u ∈ out, u ∈ its := fun u hu => h2.perm.mem_iff.mp hu
  obtain ⟨n, hn⟩ := hn
  have q := q (out.map fun u => (backV u, keyOf s.heap u)) d (by
    rw [e1, e2, zip_maps]
    exact h2.perm.map _) (by
    rw [List.map_map]
    exact List.pairwise_map.mpr h1) (I.hok.fresh hd)
  rw [List.map_map] at q
  refine ⟨.ref d, upd H d (.lst (out.map backV)), I.laid (t' := s.toks) kp hd ⟨?_, out, n, vals_back fun u hu => (e3 u (mem u hu)).2.2, hn⟩, rfl, q⟩
  rw [List.length_map, h2.perm.length_eq, ← rv.length]; exact hz
def prD (k : Int × Int) : D := .tup [.int k.1, .int k.2]
section
variable {T : Tx} {ι : Type} {X : ι → Cx} {m : Hid} {ρ : En} {k : Nat} {a b c e : Expr} {pos : Pos} {x y d d' : D} {Φ : Pst} {Ψ : D → En → Prop} {rest : List Stmt}
theorem reps_prs {H : Hp} : ∀ {ks : List (Int × Int)} {vs : List V}, Reps T H (ks.map prD) vs → Paired (PrAt T.K H) vs ks
  | [], vs, h => by rw [reps_nil.mp h]; exact .nil
  | k :: ks, vs, h => by
    obtain ⟨v, r, rfl, q, t⟩ := reps_cons.mp h
    obtain ⟨a, ws, rfl, s, rs⟩ := rep_tup.mp q
    rw [(reps_ints (l := [k.1, k.2])).mp rs] at s
    exact .cons ⟨a, rfl, s⟩ (reps_prs t)
theorem prs_reps {H : Hp} : ∀ {ks : List (Int × Int)} {vs : List V}, Paired (PrAt T.K H) vs ks → Reps T H (ks.map prD) vs
  | _, _, .nil => reps_nil.mpr rfl
  | k :: ks, _, .cons ⟨a, e, s⟩ t => by
    subst e
    exact reps_cons.mpr ⟨_, _, rfl, rep_tup.mpr ⟨a, _, rfl, s, (reps_ints (l := [k.1, k.2])).mpr rfl⟩, prs_reps t⟩
theorem prs_ext {K : PySem.W.Frag} {H H' : Hp} (e : Ext H H') : ∀ {vs : List V} {ks : List (Int × Int)}, Paired (PrAt K H) vs ks → Paired (PrAt K H') vs ks := fun h => Paired.mapP h fun _ _ ⟨a, e1, s⟩ => ⟨a, e1, sqT_ext e s⟩
theorem paired_zip {α β : Type} {P : α → β → Prop} : ∀ {xs : List α} {ks : List β}, Paired P xs ks → ∀ z ∈ xs.zip ks, P z.1 z.2
  | _, _, .nil, _, h => by simp at h
  | x :: xs, k :: ks, .cons h t, z, hz => by
    rcases List.mem_cons.mp hz with rfl | hz
    · exact h
    · exact paired_zip t z hz
theorem zip_paired {α β : Type} {P : α → β → Prop} : ∀ {zs : List (α × β)}, (∀ z ∈ zs, P z.1 z.2) → Paired P (zs.map (·.1)) (zs.map (·.2))
  | [], _ => .nil
  | z :: zs, h => .cons (h z List.mem_cons_self) (zip_paired fun w hw => h w (List.mem_cons_of_mem _ hw))
theorem zip_snd {α β : Type} {P : α → β → Prop} : ∀ {xs : List α} {ks : List β}, Paired P xs ks → (xs.zip ks).map (·.2) = ks
  | _, _, .nil => rfl
  | x :: xs, k :: ks, .cons _ t => by rw [List.zip_cons_cons, List.map_cons, zip_snd t]
/-- sorted(e), e a list of pairs of ints: `ls` is that list sorted. All of it is read from the heap without the hidden cells; hence they are hidden for the call, too -/
theorem je_sortPr {p : Pos} {ks ls : List (Int × Int)} (hX : Fam T k X) (hm : T.mg "sorted" = none) (ha : JE T X ρ e (.lst (ks.map prD))) (hs : ls.Pairwise fun a b => SrtO.lexB b a = false) (hp : ls.Perm ks) (hg : ∀ i, Gl (X i) "sorted" := by intro _; rfl) (he : ∀ i, starEach [e] (X i).env = (false, eval e (X i).env) :: starEach [] (X i).env := by intro _; rfl) : JE T X ρ (.Call (.Name "sorted" p) [e] [] pos) (.lst (ls.map prD)) :=
  je_callB (id := "sorted") (r := rSortPr T.K) hX hm (fun i => by rw [← hX.K i]; exact cr_sortPr) (by decide +kernel) (ja_cons ha ja_nil he) (fun ps H vs Q ho h q => by
    obtain ⟨v, rfl, h'⟩ := reps_one h
    obtain ⟨a, ws, rfl, s, r⟩ := rep_lst.mp h'
    refine ⟨a, ws, ks, rfl, sqL_ext ext_del s, prs_ext ext_del (reps_prs r), fun zs p h1 h2 h4 => ?_⟩
    have rp := reps_prs r
    have e : zs.map (·.2) = ls := List.Perm.eq_of_pairwise (fun a b _ _ h1 h2 => by
      have h1 := SrtO.lexB_no.mp h1
      have h2 := SrtO.lexB_no.mp h2
      refine Prod.ext ?_ ?_ <;> omega) h2 hs ((h1.map (·.2)).trans (by rw [zip_snd rp]; exact hp.symm))
    have rz : Paired (PrAt T.K (del H ps)) (zs.map (·.1)) (zs.map (·.2)) := zip_paired fun z hz => paired_zip rp z (h1.mem_iff.mp hz)
    rw [e] at rz
    exact q _ _ (Ext.new h4) (rep_newL ho h4 (prs_reps rz))) hg (he := he)
end
end Fr
namespace Fr
open PySem PySem.Spec PyProof.Rows L2 StX
/-! ### a dict of one key, that is a tuple: {k: v for ..} over no item or one, and sorted of it -/
def keysP (Dd : Addr) (bs : List Addr) : Heap → Prop := fun h => (Dd == sysModules) = false ∧ ∃ o es ep, h.get? Dd = some o ∧ o.ExactDict ∧ o.data = .dict es ep ∧ es.toList.map (·.key) = bs.map Value.ref
def keysO (Dd : Addr) (bs : List Addr) : HO := .ext (keysP Dd bs)
theorem keysO_ok {P : Program} {w : World} {H : Hp} {h : Heap} {Dd : Addr} {bs : List Addr} (e : keysP Dd bs h) : ObjOk P w H h Dd (keysO Dd bs) := by
  obtain ⟨lo, o, es, ep, h1, h2, h3, h4⟩ := e
  exact ⟨⟨lo, o, es, ep, h1, h2, h3, h4⟩, ⟨o, h1⟩, fun a b ⟨lo, o, es, ep, k1, k2, k3, k4⟩ st => ⟨lo, o, es, ep, st _ k1, k2, k3, k4⟩⟩
theorem tup_key {X : Cx} {pn : List (Addr × Obj)} {σ : L2.St} {H : Hp} {s : Shared} {b : Addr} {i j : Int} (I : Inv X pn σ H s) (h : SqT X.K H b [.int i, .int j]) : (tupleKind (mixKind X.prog X.w)).is s.heap [Sum.inl i, Sum.inl j] b := by
  obtain ⟨its, r, ⟨o, h1, h2, n, h3⟩, _⟩ := I.tuple h
  exact ⟨o, its.toArray, n, h1, h2, h3, by simpa using items_are (ks := [Sum.inl i, Sum.inl j]) r⟩
theorem d_dictSetT {X : Cx} {pn : List (Addr × Obj)} {σ : L2.St} {H : Hp} {s : Shared} {E : Value → Shared → Prop} {Dd b : Addr} {i j : Int} {A : Around} {u r : Value} {Q : Unit → Shared → Prop} (hu : A.units < cLine) (I : Inv X pn σ H s) (hD : H Dd = some (.dT [])) (hs : SqT X.K H b [.int i, .int j])
    (ry : RelV (.ref b) u) (h : ∀ s', Inv X pn σ (upd H Dd (keysO Dd [b])) s' → Q () s') : wpAny (model X.prog X.w) A (dictSet Dd u r) Q E s := by
  cases (show u = Value.ref b from ry)
  obtain ⟨z, hd, xs, rel, dd⟩ := dt_of I.hok hD
  cases rel
  refine wpAny_dictSet_heap (hsz := Nat.zero_le _) (knd := tupleKind (mixKind X.prog X.w)) hu (tup_key I hs) dd fun h' dd' hsb => h _ ?_
  obtain ⟨q, es, ep, hq, h2, h3, h4, _, h5⟩ := dd'
  refine d_write I (by rw [hD]; exact True.intro) hsb ⟨q, hq⟩ (keysO_ok ⟨hd, q, es, ep, hq, h2, h3, ?_⟩)
  rw [h4]
  rfl
def tDcT (K : PySem.W.Frag) (wi : TI) (g : TG) (tt : TT) (tk tv : TE) (vs : List Nat) : TE := fun σ H Q => wi σ H fun J H1 => ∀ Dd, H1 Dd = none → ∃ Ww : Nat → Nat → Hp → Prop, (∃ m, Ww 0 m (upd H1 Dd (HO.dT []))) ∧ ∀ i m G, Ww i m G →
  (J.stop i G ∧ Q (.ref Dd) G) ∨ (J.go i G ∧ ∃ Nxt : Hp → Prop, (∀ G', Nxt G' → ∃ m', m' < m ∧ Ww (i + 1) m' G') ∧ ∀ x G', J.yld i G x G' → g x (wipe σ vs) G' fun σ2 G2 => wipe σ2 vs = wipe σ vs ∧ tt σ2 G2 fun b G3 =>
    if b = true then tk σ2 G3 fun y G4 => tv σ2 G4 fun z G5 => ∃ kb ki kj, y = .ref kb ∧ SqT K G5 kb [.int ki, .int kj] ∧ G5 Dd = some (.dT []) ∧ Nxt (upd G5 Dd (keysO Dd [kb])) else Nxt G3)
theorem dcT_core {X : Cx} {pn : List (Addr × Obj)} {s : Shared} {σ : L2.St} {H : Hp} {Q : VK} {kex vex tgt iter : Expr} {ifs : List Expr} {scope : Scope} {ow : List (Str × Nat)} {pos pos' : Pos} {wi : TI} {g : TG} {tt : TT} {tk tv : TE} {use : Option (Value → Sem Unit)} {Qf : Value → Shared → Prop}
    (hroom : X.A.units < cLine) (hc : X.calm = true) (hN : X.N.Nodup) (I : Inv X pn σ H s) (hii : PI X tgt iter wi) (okk : BlkOk X.N X.env.scope scope ow)
    (hgg : ∀ (s : Shared) (H : Hp) (C : Addr) (cl : List (Str × Addr)) (fq : List Addr), PG (X.blk s H scope (compEnvC scope cl C X.env) fq) tgt g) (htt : ∀ (s : Shared) (H : Hp) (C : Addr) (cl : List (Str × Addr)) (fq : List Addr), PTs (X.blk s H scope (compEnvC scope cl C X.env) fq) ifs tt)
    (hkk : ∀ (s : Shared) (H : Hp) (C : Addr) (cl : List (Str × Addr)) (fq : List Addr), PE (X.blk s H scope (compEnvC scope cl C X.env) fq) kex tk)
    (hee : ∀ (s : Shared) (H : Hp) (C : Addr) (cl : List (Str × Addr)) (fq : List Addr), PE (X.blk s H scope (compEnvC scope cl C X.env) fq) vex tv) (hss : ∀ x, foldedSetIterable iter X.env x = pure x)
    (h : tDcT X.K wi g tt tk tv (ow.map (·.2)) σ H Q)
    (hRq : ∀ Dd C t' m G', Inv X pn σ G' t' → Q (.ref Dd) G' → t'.heap.Ns C m → FpOk X pn G' C → compPost (model X.prog X.w) X.A X.xe use Qf (.ref Dd) C (.ok .next) t') :
    wpAny (model X.prog X.w) X.A (comprehension (.DictComp kex vex [⟨tgt, iter, ifs, 0⟩] scope pos) scope X.env pos' newDict false (eval iter X.env) use) Qf X.xe s := by
  have hfr : ∀ y ∈ scope.names, y.2 = .free → ∃ c, X.env.cells.lookup y.1 = some c := fun y hy e => by
    rcases okk.free y hy e with k | k
    · exact I.ok.has _ (.inl k)
    · exact I.ok.has _ (.inr k)
  refine wpAny_comprehension_free (use := use) rfl hss (closure_ok hfr) okk.kind (fun y hy e => by rw [okk.uniq y hy, e])
    (thn (hii.run pn s σ H _ I h) fun xv t1 hx => thn hx fun itv t2 h2 => ?_)
  obtain ⟨it, fq, tw, J, G2, e, J2, Tt, u2, g2, q⟩ := h2
  subst e
  refine wpAny_newObj_type (newEnv_comp ?_)
  generalize hD : t2.heap.objs.size = Dd
  have hDno : G2 Dd = none := J2.hok.fresh (Nat.le_of_eq hD)
  obtain ⟨Ww, ⟨m0, w0⟩, trn⟩ := q Dd hDno
  -- the new list
  generalize hs3 : ({ t2 with heap := t2.heap.push { cls := .type "dict", data := .dict #[] } } : Shared) = t3
  have J3 : Inv X pn σ (upd G2 Dd (HO.dT [])) t3 := by
    rw [← hs3]
    refine J2.laid (t' := t2.toks) (fun b o e => Heap.get?_push_of_some _ e) (Nat.le_of_eq hD) ?_
    rw [← hD]
    exact dt_empty t2.heap J2.big
  have h3 : t3.heap = t2.heap.push { cls := .type "dict", data := .dict #[] } := by rw [← hs3]
  have szz : ∀ b ∈ fq, b < t2.heap.objs.size := fun b hbb => by
    obtain ⟨o, e, _⟩ := Tt.obj _ _ u2 b hbb
    exact Heap.lt_size e
  have g3 : ∀ b ∈ fq, FpOk X pn (upd G2 Dd (HO.dT [])) b ∧ b < t3.heap.objs.size := fun b hbb => by
    have hlt := szz b hbb
    refine ⟨⟨?_, (g2 b hbb).2⟩, by rw [h3, Heap.size_push]; exact Nat.lt_succ_of_lt hlt⟩
    rw [upd_ne (by rw [← hD]; exact Nat.ne_of_lt hlt)]
    exact (g2 b hbb).1
  have u3 : tw 0 t3.heap := Tt.keep _ _ _ u2 fun b _ o e => by rw [h3]; exact Heap.get?_push_of_some _ e
  have J4 := block_start J3 okk hN g3
  have pgo := hgg t3 (upd G2 Dd (HO.dT [])) t3.heap.objs.size (cellsFrom (t3.heap.objs.size + 1) scope.names (cloFrom X.env.cells scope.names [])) fq
  have pto := htt t3 (upd G2 Dd (HO.dT [])) t3.heap.objs.size (cellsFrom (t3.heap.objs.size + 1) scope.names (cloFrom X.env.cells scope.names [])) fq
  have pko := hkk t3 (upd G2 Dd (HO.dT [])) t3.heap.objs.size (cellsFrom (t3.heap.objs.size + 1) scope.names (cloFrom X.env.cells scope.names [])) fq
  have peo := hee t3 (upd G2 Dd (HO.dT [])) t3.heap.objs.size (cellsFrom (t3.heap.objs.size + 1) scope.names (cloFrom X.env.cells scope.names [])) fq
  show codeAny _ _ (.compStart (.DictComp kex vex [⟨tgt, iter, ifs, 0⟩] scope pos) 0 (.ref it) (.ref Dd) (compEnvC scope (cellsFrom (t3.heap.objs.size + 1) scope.names (cloFrom X.env.cells scope.names [])) t3.heap.objs.size X.env)) (compPost (model X.prog X.w) X.A X.xe use Qf (.ref Dd) t3.heap.objs.size) { t3 with heap := pushCells (t3.heap.push { cls := .type "dict", data := .dict #[] }) scope.names }
  have nfp : ∀ b ∈ fq, (upd G2 Dd (HO.dT [])) b = none := fun b hbb => (g3 b hbb).1.1
  generalize hce : compEnvC scope (cellsFrom (t3.heap.objs.size + 1) scope.names (cloFrom X.env.cells scope.names [])) t3.heap.objs.size X.env = cc at J4 pgo pto pko peo ⊢
  have cLo : cc.locals = t3.heap.objs.size := by subst hce; rfl
  generalize hH3 : upd G2 Dd (HO.dT []) = G3 at J3 J4 pgo pto pko peo w0 nfp g3
  generalize hs4 : ({ t3 with heap := pushCells (t3.heap.push { cls := .type "dict", data := .dict #[] }) scope.names } : Shared) = t4 at J4 ⊢
  have u4 : tw 0 t4.heap := Tt.keep _ _ _ u3 fun b _ o e => by rw [← hs4]; exact pushCells_keeps _ _ _ _ (Heap.get?_push_of_some _ e)
  have sta : ∀ {σ' : L2.St} {G' : Hp} {t' : Shared}, Inv (X.blk t3 G3 scope cc fq) [] σ' G' t' → (∀ b ∈ fq, G' b = none) → ∀ b ∈ fq, FpOk (X.blk t3 G3 scope cc fq) [] G' b := fun {σ' G' t'} J' hn b hbb =>
    ⟨hn b hbb, (J'.ok.exf b hbb).1, J'.ok.exfs b hbb, .inl hbb, fun x c e => (J'.ok.exf b hbb).2 x c e, fun p hp => absurd (show p ∈ ([] : List (Addr × Obj)) ++ [] from hp) (by simp)⟩
  have lp : codeAny (model X.prog X.w) X.A (.compLoop (.DictComp kex vex [⟨tgt, iter, ifs, 0⟩] scope pos) 0 (.ref it) (.ref Dd) cc) (compPost (model X.prog X.w) X.A X.xe use Qf (.ref Dd) t3.heap.objs.size) t4 := by
    refine compLoop_anyD (fun n t' => ∃ i G', Inv (X.blk t3 G3 scope cc fq) [] (wipe σ (ow.map (·.2))) G' t' ∧ tw i t'.heap ∧ (∀ b ∈ fq, G' b = none) ∧ Ww i n G') ?_ m0 ⟨0, G3, J4, u4, nfp, w0⟩
    rintro n t5 ⟨i, G5, J5, u5, m5, w5⟩
    rcases trn i n G5 w5 with ⟨stop, qq⟩ | ⟨go, Nxt, hNx, step⟩
    · have td := Tt.done (X.blk t3 G3 scope cc fq) rfl rfl rfl hc i [] t5 _ G5 (fun _ _ => False) J5 (sta J5 m5) u5 stop
      refine thnF td fun r t6 ⟨her, J6⟩ => ?_
      subst her
      -- back in the def's context
      have J7 : Inv X pn σ G5 t6 := J3.call' (ch := fq) J6.os J6.base J6.hok J6.bare fun b hbb => ⟨(g3 b hbb).1.2.2.2.1, (g3 b hbb).1.2.1, (g3 b hbb).1.2.2.2.2.1, (g3 b hbb).1.2.2.2.2.2⟩
      have nC : G5 t3.heap.objs.size = none := by
        have z : G5 cc.locals = none := J6.free
        rw [cLo] at z
        exact z
      obtain ⟨m, hn, _⟩ := J6.loc
      have hn : t6.heap.Ns cc.locals m := hn
      rw [cLo] at hn
      exact hRq Dd t3.heap.objs.size t6 m G5 J7 qq hn (J3.fpOk (Nat.le_refl _) nC)
    · have ti := Tt.item (X.blk t3 G3 scope cc fq) rfl rfl rfl hc i [] t5 _ G5 (fun _ _ => False) J5 (sta J5 m5) u5 go
      refine thnF ti fun r t6 ⟨u, her, h6⟩ => ?_
      subst her
      refine thnF h6 fun _ t7 ⟨x, G7, J7, r7, y7, u7, m7⟩ => ?_
      have J7' := J7.pinned (sta J7 m7) (Tt.obj _ _ u7)
      refine thnF (pgo.run _ t7 _ G7 x u _ J7' r7 (step x G7 y7)) fun _ t8 ⟨σ8, G8, J8, hw8, z8⟩ => ?_
      refine thnF (pto.run _ t8 σ8 G8 _ J8 z8) fun b t9 ⟨G9, J9, z9⟩ => ?_
      -- the turn's end
      have fnn : ∀ {t' : Shared} {G' : Hp}, Inv (X.blk t3 G3 scope cc fq) ([] ++ pinsAt fq t7.heap) σ8 G' t' → Nxt G' → ∃ m, m < n ∧ ∃ i G', Inv (X.blk t3 G3 scope cc fq) [] (wipe σ (ow.map (·.2))) G' t' ∧ tw i t'.heap ∧ (∀ b ∈ fq, G' b = none) ∧ Ww i m G' := fun {t' G'} J' nxt => by
        obtain ⟨m', hm, w'⟩ := hNx G' nxt
        have pin' : ∀ b ∈ fq, ∀ o, t7.heap.get? b = some o → t'.heap.get? b = some o ∧ G' b = none := fun b hbb o e =>
          let z := J'.pin (b, o) (List.mem_append_right _ (List.mem_append_right _ (mem_pinsAt hbb e)))
          ⟨z.1, z.2.1⟩
        have hl : (wipe σ (ow.map (·.2))).length = σ8.length := by rw [← hw8, wipe_length]
        refine ⟨m', hm, i + 1, G', (J'.unpinned (pins := [])).weak hl (fun j v e => ?_), Tt.keep _ _ _ u7 fun b hbb o e => (pin' b hbb o e).1, fun b hbb => ?_, w'⟩
        · rw [← hw8] at e
          exact (wipe_some e).1
        · obtain ⟨o, e, _⟩ := Tt.obj _ _ u7 b hbb
          exact (pin' b hbb o e).2
      cases b with
      | false =>
        simp only [Bool.false_eq_true, if_false] at z9 ⊢
        exact fnn J9 z9
      | true =>
        simp only [if_true] at z9 ⊢
        refine thnF (pko.run _ t9 σ8 G9 _ J9 z9) fun z t10 ⟨yk, G10, J10, r10, z10⟩ => ?_
        refine thnF (peo.run _ t10 σ8 G10 _ J10 z10) fun z2 t11 ⟨yv, G11, J11, r11, kb, ki, kj, ek, hsT, hD11, nxt⟩ => ?_
        subst ek
        exact d_dictSetT (X := X.blk t3 G3 scope cc fq) hroom J11 hD11 hsT r10 fun t12 J12 => fnn J12 nxt
  exact codeAny_compStart_dict lp (Tt.self X.A 0 _ _ _ u4 lp)
/-- as a value -/
theorem pe_dcT {X : Cx} {kex vex tgt iter : Expr} {ifs : List Expr} {scope : Scope} {ow : List (Str × Nat)} {pos : Pos} {wi : TI} {g : TG} {tt : TT} {tk tv : TE} (hroom : X.A.units < cLine) (hc : X.calm = true) (hN : X.N.Nodup) (hii : PI X tgt iter wi) (okk : BlkOk X.N X.env.scope scope ow)
    (hgg : ∀ (s : Shared) (H : Hp) (C : Addr) (cl : List (Str × Addr)) (fq : List Addr), PG (X.blk s H scope (compEnvC scope cl C X.env) fq) tgt g) (htt : ∀ (s : Shared) (H : Hp) (C : Addr) (cl : List (Str × Addr)) (fq : List Addr), PTs (X.blk s H scope (compEnvC scope cl C X.env) fq) ifs tt)
    (hkk : ∀ (s : Shared) (H : Hp) (C : Addr) (cl : List (Str × Addr)) (fq : List Addr), PE (X.blk s H scope (compEnvC scope cl C X.env) fq) kex tk)
    (hee : ∀ (s : Shared) (H : Hp) (C : Addr) (cl : List (Str × Addr)) (fq : List Addr), PE (X.blk s H scope (compEnvC scope cl C X.env) fq) vex tv) (hss : ∀ x, foldedSetIterable iter X.env x = pure x) :
    PE X (.DictComp kex vex [⟨tgt, iter, ifs, 0⟩] scope pos) (tDcT X.K wi g tt tk tv (ow.map (·.2))) := by
  refine ⟨fun pn s σ H Q I h => ?_⟩
  rw [arm_eval_DictComp]
  refine dcT_core hroom hc hN I hii okk hgg htt hkk hee hss h fun Dd C t' m G' J' q hn f => ⟨m, hn, fun h'' sb => ?_⟩
  obtain ⟨f0, f1, _, f3, f4, f5⟩ := f
  exact ⟨.ref Dd, G', J'.turned (t' := t'.toks) (fun b o hb e => (sb.2 b hb).trans e) f0 f1 f3 f4 f5, rfl, q⟩
/-- sorted(d), d of at most one key -/
def rSortK : List V → Hp → VK → Prop := fun vs H Q => ∃ Dd bs, vs = [V.ref Dd] ∧ (H Dd = some (keysO Dd bs) ∨ (H Dd = some (.dT []) ∧ bs = [])) ∧ bs.length ≤ 1 ∧ ∀ p, H p = none → Q (.ref p) (upd H p (.lst (bs.map V.ref)))
theorem cr_sortK {X : Cx} (hcalm : X.calm = true) : CallR X (.builtin "sorted") rSortK := by
  intro pn s σ H xs us Q I r h
  obtain ⟨Dd, bs, rfl, hk, h1, q⟩ := h
  obtain ⟨u, rfl, ru⟩ := vals1 r
  obtain rfl : u = Value.ref Dd := ru
  have raw : keysP Dd bs s.heap := by
    rcases hk with hk | ⟨hk, rfl⟩
    · exact (I.hok _ _ hk).1
    · obtain ⟨z, hd, xs, rel, o, es, ep, a1, a2, a3, a4, _⟩ := dt_of I.hok hk
      cases rel
      exact ⟨hd, o, es, ep, a1, a2, a3, by rw [a4]; rfl⟩
  obtain ⟨lo, o, es, ep, a1, a2, a3, a4⟩ := raw
  have hes : es.size = bs.length := by
    have := congrArg List.length a4
    simpa using this
  refine Calls.call_function_entry PyProof.Rows.kind_sorted PyProof.Rows.plain_sorted PyProof.Rows.entry_sorted (PyProof.Rows.args_sorted1 _) ?_
  unfold Builtin.«sorted»
  refine wpAny_bind (m := checkCount "sorted" 1 1 _) (wpAny_pure ?_)
  refine wpAny_bind (PySem.W.kdu_collect (A := X.A.in1) (kdl_raw lo a2 a3) (I.ok.hd hcalm) a1 (by rw [hes, sizeLine_eq]; omega) fun h' tk acc kk hacc => ?_)
  have ea : acc.toList = bs.map Value.ref := by
    have hl : acc.toList.length = bs.length := by rw [Array.length_toList, hacc.1, hes]
    apply List.ext_getElem?
    intro j
    cases hj : acc.toList[j]? with
    | none =>
      have e1 := List.getElem?_eq_none_iff.mp hj
      rw [List.getElem?_eq_none (by rw [List.length_map]; omega)]
    | some v =>
      obtain ⟨en, hen, hv⟩ := hacc.2 j v (by rw [← Array.getElem?_toList]; exact hj)
      have e3 : (es.toList.map (·.key))[j]? = some en.key := by rw [List.getElem?_map, Array.getElem?_toList, hen]; rfl
      rw [a4] at e3
      rw [e3, hv]
  have rv : Vals (bs.map V.ref) acc.toList := by rw [ea]; exact vals_refs _
  have hz : acc.toList.length ≤ sizeLine := by rw [ea, List.length_map, sizeLine_eq]; omega
  have I1 : Inv X pn σ H { s with heap := h', toks := tk } := I.kept kk
  refine wpAny_bind (wpAny_newList ?_ hz)
  have hoL : (h'.push (seqObj "list" acc.toList.toArray 0)).get? h'.objs.size = some (seqObj "list" acc.toList.toArray 0) := Heap.get?_push_size _ rfl
  show wpAny _ _ _ _ _ { s with heap := h'.push (seqObj "list" acc.toList.toArray 0), toks := tk }
  refine wpAny_bind (wpAny_holding (wpAny_call_entry PyProof.Rows.slot_list_sort ⟨_, hoL, rfl⟩ PyProof.Rows.entry_list_sort
    (SrtO.list_sort_ord (s := { s with heap := h'.push (seqObj "list" acc.toList.toArray 0), toks := tk }) (ltv := fun _ _ => false) ⟨fun _ _ z => (nomatch z), fun _ _ _ _ _ => rfl⟩ hoL hz (fun h2 => absurd h2 (by rw [ea, List.length_map]; omega)) fun out _ hst => ⟨_, rfl, ?_⟩) (PyProof.Rows.args_list_sort _)))
  obtain ⟨e', he'⟩ := PyProof.Rows.sortedHeap_at (vs := acc.toList) (out := out.toArray) hoL
  have eo : out = acc.toList := by
    have hp := hst.perm
    rw [ea] at hp ⊢
    match bs, h1 with
    | [], _ => exact hp.eq_nil
    | [b], _ => exact List.perm_singleton.mp hp
    | _ :: _ :: _, h1 => exact absurd h1 (by simp)
  refine wpAny_pure ⟨_, rfl, .ref h'.objs.size, upd H h'.objs.size (.lst (bs.map V.ref)), I1.laid (t' := tk) (fun b u e => ?_) (Nat.le_refl _)
    (show ObjOk X.prog X.w _ _ _ (.lst (bs.map V.ref)) from ⟨by rw [List.length_map, sizeLine_eq]; omega, out, e', by rw [eo]; exact rv, he'⟩), rfl, q _ (I1.hok.fresh (Nat.le_refl _))⟩
  have hb : b < h'.objs.size := Heap.lt_size e
  rw [PyProof.Rows.sortedHeap_old (Nat.ne_of_lt hb) (by rw [size_push']; exact Nat.lt_succ_of_lt hb)]
  exact Heap.get?_push_of_some _ e
section
variable {T : Tx} {ι : Type} {X : ι → Cx} {m : Hid} {ρ : En} {k : Nat} {a b c e : Expr} {pos : Pos} {x y d d' : D}
/-- sorted({x: v for x in src}), src no pair of ints or one -/
theorem je_sortDc {kex vex iter : Expr} {scope : Scope} {x' : Str} {px p p2 : Pos} (j : Nat) {src : List D} (hX : Fam T k X) (hm : T.mg "sorted" = none) (hN : ∀ i, (X i).N.Nodup) (hi : JIt T X ρ (.Name x' px) iter src) (hsrc : src = [] ∨ ∃ z, src = [prD z])
    (hk : ∀ d ∈ src, JE T (blkF X scope) (ρ.set j (some (.d d))) kex d) (hv : ∀ d ∈ src, JE T (blkF X scope) (ρ.set j (some (.d d))) vex d') (ok : ∀ i, BlkOk (X i).N (X i).env.scope scope [(x', j)]) (hj : ∀ i, (X i).N[j]? = some x' := by intro _; rfl)
    (hx : ∀ i, L2.Loc (blkF X scope i).env.scope x' := by first | exact fun _ => Or.inl rfl | exact fun _ => Or.inr rfl) (hf : ∀ i, (blkF X scope i).fn x' = true ∨ (blkF X scope i).env.scope.names.lookup x' = some .local := by first | exact fun _ => .inr rfl | exact fun _ => .inl rfl) (hs : ∀ i x, foldedSetIterable iter (X i).env x = pure x := by intro _ _; rfl)
    (hg : ∀ i, Gl (X i) "sorted" := by intro _; rfl) (he : ∀ i, starEach [.DictComp kex vex [⟨.Name x' px, iter, [], 0⟩] scope p2] (X i).env = (false, eval (.DictComp kex vex [⟨.Name x' px, iter, [], 0⟩] scope p2) (X i).env) :: starEach [] (X i).env := by intro _; rfl) :
    JE T X ρ (.Call (.Name "sorted" p) [.DictComp kex vex [⟨.Name x' px, iter, [], 0⟩] scope p2] [] pos) (.lst src) := by
  obtain ⟨wi, pi, xi⟩ := hi
  let tk : TE := canE (blkF X scope) kex
  let tv : TE := canE (blkF X scope) vex
  let tt : TT := fun σ H Q => Q true H
  refine ⟨tCB rSortK (tCons (tDcT T.K wi (gName j) tt tk tv [j]) tNil), fun i => pe_callB (id := "sorted") (cr_sortK (hX.calm i)) (hg i) (by rw [hX.mg i]; exact hm) (by decide +kernel) (pa_cons (by
    rw [← hX.K i]
    exact pe_dcT (ow := [(x', j)]) (Nat.lt_of_le_of_lt (by omega) (hX.room i).units) (hX.calm i) (hN i) (pi i) (ok i) (fun s H C cl fq => pg_name (hN i) (hj i) (hx (i, s, H, C, cl, fq)) (hf (i, s, H, C, cl, fq)))
      (fun s H C cl fq => ⟨fun pins s' σ H' Q I h => wpAny_tests_nil ⟨H', I, h⟩⟩) (fun s H C cl fq => can_pe (X := blkF X scope) kex (i, s, H, C, cl, fq)) (fun s H C cl fq => can_pe (X := blkF X scope) vex (i, s, H, C, cl, fq)) (hs i)) pa_nil (he i)) (by decide) (by decide) (he i) rfl, fun ps σ H hh hE Q q => ?_⟩
  refine xi ps σ H hh hE _ fun J H1 e1 wk => ?_
  intro Dd hD
  have nD : ¬ ps Dd := (hh.mono e1).out hD
  have hD0 : H Dd = none := e1.free hD
  have fin : ∀ (G : Hp) (bs : List Addr), Ext H1 G → Reps T (del G ps) src (bs.map V.ref) → bs.length ≤ 1 → (G Dd = some (keysO Dd bs) ∨ (G Dd = some (.dT []) ∧ bs = [])) → rSortK [V.ref Dd] G Q := fun G bs e r h1 h2 =>
    ⟨Dd, bs, rfl, h2, h1, fun p hp => q _ _ ((e1.trans e).trans (Ext.new hp)) (rep_newL ((hh.mono e1).mono e) hp r)⟩
  have e0 : Ext H1 (upd H1 Dd (HO.dT [])) := Ext.new hD
  rcases hsrc with rfl | ⟨z, rfl⟩
  · exact ⟨fun i m G => i = 0 ∧ G = upd H1 Dd (HO.dT []), ⟨0, rfl, rfl⟩, fun i m G ⟨hi, hG⟩ => by
      subst hi hG
      exact .inl ⟨(wk _ ps (e0.del ps) ((hh.mono e1).mono e0) 0).2 (Nat.le_refl _), fin _ [] e0 (reps_nil.mpr rfl) (by decide) (.inr ⟨upd_same, rfl⟩)⟩⟩
  · refine ⟨fun i m G => (m = 1 ∧ i = 0 ∧ G = upd H1 Dd (HO.dT [])) ∨ (m = 0 ∧ i = 1 ∧ Ext H1 G ∧ ∃ b, Rep T (del G ps) (prD z) (.ref b) ∧ G Dd = some (keysO Dd [b])), ⟨1, .inl ⟨rfl, rfl, rfl⟩⟩, ?_⟩
    rintro i m G (⟨rfl, rfl, rfl⟩ | ⟨rfl, rfl, e2, b, rb, hb⟩)
    · obtain ⟨go, yl⟩ := (wk _ ps (e0.del ps) ((hh.mono e1).mono e0) 0).1 (prD z) rfl
      refine .inr ⟨go, fun G' => Ext H1 G' ∧ ∃ b, Rep T (del G' ps) (prD z) (.ref b) ∧ G' Dd = some (keysO Dd [b]), fun G' h => ⟨0, Nat.one_pos, .inr ⟨rfl, rfl, h⟩⟩, fun x G' hy => ?_⟩
      obtain ⟨ey, rx⟩ := yl x G' hy
      have e0y := e0.trans ey
      have hk1 := (hh.mono e1).mono e0y
      refine lcg_name (T := T) (ρ := ρ) (j := j) (d := prD z) ps σ _ x _ hk1 (hE.ext (e1.trans e0y)) rx fun σ2 hE2 ew => ⟨ew, ?_⟩
      show tk σ2 _ _
      refine (hk _ List.mem_cons_self).can ps σ2 _ hk1 hE2 _ fun y G3 e3 r3 => ?_
      refine (hv _ List.mem_cons_self).can ps σ2 G3 (hk1.mono e3) (hE2.ext e3) _ fun w G4 e4 r4 => ?_
      have e34 := e3.trans e4
      have hD4 : G4 Dd = some (.dT []) := (ey.trans e34).at upd_same fun _ z => nomatch z
      have r3 := Rep.ext (e4.del ps) _ _ r3
      obtain ⟨kb, ws, rfl, sq, rq⟩ := rep_tup.mp r3
      rw [(reps_ints (l := [z.1, z.2])).mp rq] at sq
      have e04 : Ext H1 (upd G4 Dd (keysO Dd [kb])) := fun a o h => by
        have hne : a ≠ Dd := fun w => by rw [w, hD] at h; cases h
        obtain ⟨o', h', g⟩ := (e0y.trans e34) a o h
        exact ⟨o', by rw [upd_ne hne]; exact h', g⟩
      refine ⟨kb, z.1, z.2, rfl, sqT_ext ext_del sq, hD4, e04, kb, ?_, upd_same⟩
      refine rep_tup.mpr ⟨kb, _, rfl, ?_, (reps_ints (l := [z.1, z.2])).mpr rfl⟩
      rcases sq with (sq | ⟨o, sq⟩) | sq
      · refine .inl (.inl ?_)
        obtain ⟨sq, n⟩ := del_in sq
        rw [del_of n, upd_ne (fun w => by rw [w, hD4] at sq; cases sq)]
        exact sq
      · refine .inl (.inr ⟨o, ?_⟩)
        obtain ⟨sq, n⟩ := del_in sq
        rw [del_of n, upd_ne (fun w => by rw [w, hD4] at sq; cases sq)]
        exact sq
      · exact .inr sq
    · exact .inl ⟨(wk G ps (e2.del ps) ((hh.mono e1).mono e2) 1).2 (Nat.le_refl _), fin G [b] e2 (reps_cons.mpr ⟨_, [], rfl, rb, reps_nil.mpr rfl⟩) (Nat.le_refl _) (.inl hb)⟩
end
end Fr
/-! next(a generator expression, None) -/
namespace Fr
open PySem PySem.Spec PyProof.Rows L2 GenW
/-- the context of a generator expression's frame -/
abbrev genX (X : Cx) (s0 : Shared) (H0 : Hp) (Ag : Around) (ge : Env) (fp : List Addr) : Cx := { X with A := Ag, s_0 := s0, H_0 := H0, env := ge, outer := X.stack, stack := ge :: X.stack, ex := fp, fn := fun _ => false, calm := true, pn := [], xe := fun _ _ => False }
structure GSc (N : List Str) (sc scope : Scope) (own : List (Str × Nat)) : Prop where
  blk : BlkOk N sc scope own
  nocell : ∀ y ∈ scope.names, y.2 ≠ .cell
section
variable {X : Cx} {pins : List (Addr × Obj)} {σ : L2.St} {H : Hp} {s : Shared}
theorem gen_start {scope : Scope} {own : List (Str × Nat)} {fp : List Addr} {Ag : Around} {code : Value} {s5 : Shared} {m0 : Str → Option Value} (I : Inv X pins σ H s) (ok : GSc X.N X.env.scope scope own) (hN : X.N.Nodup) (hfp : ∀ b ∈ fp, FpOk X pins H b ∧ b < s.heap.objs.size)
    (hAf : Ag.frames = some (genEnv scope (cloFrom X.env.cells scope.names []) s.heap.objs.size code builtinsNs X.env :: X.stack)) (hAh : Ag.handled = none) (os : s5.os = s.os) (bare : AllBare s5.gens) (kp : ∀ b o, s.heap.get? b = some o → s5.heap.get? b = some o) (ns : s5.heap.Ns s.heap.objs.size m0) :
    Inv (genX X s H Ag (genEnv scope (cloFrom X.env.cells scope.names []) s.heap.objs.size code builtinsNs X.env) fp) [] (wipe σ (own.map (·.2))) H s5 := by
  have hfree : ∀ y ∈ scope.names, y.2 = .free → ∃ c, X.env.cells.lookup y.1 = some c := fun y hy e => by
    rcases ok.blk.free y hy e with k | k
    · exact I.ok.has _ (.inl k)
    · exact I.ok.has _ (.inr k)
  generalize hge : genEnv scope (cloFrom X.env.cells scope.names []) s.heap.objs.size code builtinsNs X.env = ge at hAf
  have hL : ge.locals = s.heap.objs.size := by rw [← hge]; rfl
  have hcl : ge.cells = cloFrom X.env.cells scope.names [] := by rw [← hge]; rfl
  have hsc : ge.scope = scope := by rw [← hge]; rfl
  have cm : ∀ {y c}, (y, c) ∈ cloFrom X.env.cells scope.names [] → X.env.cells.lookup y = some c ∧ c < s.heap.objs.size := fun {y c} hm => by
    rcases cloFrom_mem hm with hm | ⟨h1, rfl⟩
    · cases hm
    · obtain ⟨c, hc⟩ := hfree _ h1 rfl
      rw [hc]
      obtain ⟨w, z⟩ := I.cell _ _ hc
      exact ⟨rfl, z.lt⟩
  have mem : ∀ {y c}, ge.cells.lookup y = some c → X.env.cells.lookup y = some c ∧ c < s.heap.objs.size := fun {y c} e => by
    rw [hcl] at e
    exact cm (PySem.mem_of_lookup e)
  have look : ∀ {y}, scope.names.lookup y = some .free → ∃ c, ge.cells.lookup y = some c ∧ X.env.cells.lookup y = some c := fun {y} hl => by
    have hy : (y, NameKind.free) ∈ scope.names := PySem.mem_of_lookup hl
    obtain ⟨c', e'⟩ := mem_lookup (cloFrom_has (cells := X.env.cells) (acc := []) hy)
    rw [← hcl] at e'
    exact ⟨c', e', (mem e').1⟩
  have okB : (genX X s H Ag ge fp).Ok := by
    refine ⟨I.ok.mod, by show ge.scope.kind = _; rw [hsc]; exact ok.blk.kind, by show ge.globals = _; rw [← hge]; exact I.ok.glob, by show ge.builtins = _; rw [← hge]; rfl, by show s.heap.objs.size ≤ ge.locals; rw [hL]; exact Nat.le_refl _,
      fun y z c e1 e2 => ?_, fun y hy => ?_, fun y c z e => ?_, fun _ => hAh, hAf, .inr ⟨rfl, by show ge.frame = some ge.locals; rw [← hge]; rfl⟩, fun b hb => ⟨?_, fun y c e z => ?_⟩, I.bs, Nat.le_trans I.ok.bsz I.sz, fun b o e hb => ?_, fun b hb z => ?_, I.stack, I.stkFree⟩
    · exact I.ok.inj y z c (mem e1).1 (mem e2).1
    · show ∃ c, ge.cells.lookup y = some c
      have key : ∀ k, ge.kindOf y = some k → (k = .cell ∨ k = .free) → ∃ c, ge.cells.lookup y = some c := fun k hk hk' => by
        have hk : ge.scope.names.lookup y = some k := hk
        rw [hsc] at hk
        rcases hk' with rfl | rfl
        · exact (ok.nocell _ (PySem.mem_of_lookup hk) rfl).elim
        · obtain ⟨c, h1, _⟩ := look hk
          exact ⟨c, h1⟩
      rcases hy with hy | hy
      · exact key _ hy (.inl rfl)
      · exact key _ hy (.inr rfl)
    · cases z
    · show b ≠ ge.locals
      rw [hL]; exact Nat.ne_of_lt (hfp b hb).2
    · exact (hfp b hb).1.2.2.2.2.1 y c (mem e).1 z
    · rcases (hfp b hb).1.2.2.2.1 with z | z
      · exact I.ok.noex b o e z
      · exact absurd (Nat.lt_of_lt_of_le (Heap.lt_size e) (Nat.le_trans I.ok.bsz z)) (Nat.lt_irrefl _)
    · rcases List.mem_cons.mp (I.stkSub b z) with z | z
      · exact (hfp b hb).1.2.1 z
      · exact (hfp b hb).1.2.2.1 z
  refine ⟨okB, os, bare, Un.kept kp, ⟨m0, ?_, fun i y av e1 e2 e3 => ?_⟩, fun y c e => ?_, ?_, fun y c e => ?_, fun p hp => ?_, I.hok.kept kp, by rw [wipe_length]; exact I.len⟩
  · show Heap.Ns _ ge.locals _
    rw [hL]
    exact ns
  · obtain ⟨e2, hne⟩ := wipe_some e2
    have hfr : scope.names.lookup y = some .free := by
      have e3 : Vis ge.scope y := e3
      rw [hsc] at e3
      have no : ∀ k, scope.names.lookup y = some k → ¬ (k = .local ∨ k = .cell) := fun k e hh => by
        rcases ok.blk.own _ (PySem.mem_of_lookup e) hh with e' | e'
        · obtain ⟨p, hp, hpy⟩ := List.mem_map.mp e'
          have e3 := ok.blk.ix p hp
          have : p.1 = y := hpy
          rw [this] at e3
          exact hne (List.mem_map.mpr ⟨p, hp, nodup_ix hN e3 e1⟩)
        · exact e' (List.mem_of_getElem? e1)
      rcases e3 with e3 | e3 | e3
      · exact absurd (.inl rfl) (no _ e3)
      · exact absurd (.inr rfl) (no _ e3)
      · exact e3
    obtain ⟨m, hn, hl⟩ := I.loc
    have hvis : Vis X.env.scope y := (ok.blk.free _ (PySem.mem_of_lookup hfr) rfl).elim (fun k => .inr (.inl k)) (fun k => .inr (.inr k))
    obtain ⟨w, r, q⟩ := hl i y av e1 e2 hvis
    refine ⟨w, r, .inr ⟨.inr (show ge.scope.names.lookup y = _ by rw [hsc]; exact hfr), ?_⟩⟩
    obtain ⟨c, h1, h2⟩ := look hfr
    rcases q with ⟨k, _⟩ | ⟨_, c', e', z⟩
    · have k : X.env.scope.names.lookup y = some .local := k
      rcases ok.blk.free _ (PySem.mem_of_lookup hfr) rfl with k' | k' <;> rw [show X.env.scope.names.lookup y = _ from k'] at k <;> cases k
    · rw [h2] at e'; cases e'
      exact ⟨c, h1, z.keeps kp⟩
  · obtain ⟨w, z⟩ := I.cell y c (mem e).1
    exact ⟨w, z.keeps kp⟩
  · show H ge.locals = none
    rw [hL]; exact I.hok.fresh (Nat.le_refl _)
  · exact I.freeC y c (mem e).1
  · exact absurd (show p ∈ ([] : List (Addr × Obj)) ++ [] from hp) (by simp)
/-- the turns of the generator, to the first item that it hands out, or to its end -/
theorem seg_gen1 {P : Program} {w : World} {A1 : Around} {elt tg iter : Expr} {ifs : List Expr} {scope : Scope} {gpos : Pos} {it : Addr} {ge : Env} {fp : List Addr} {J : It} {tn : Nat → Heap → Prop} {s0 : Shared} {H0 : Hp} {g : TG} {tt : TT} {te : TE} {vs : List Nat}
    (hP : X.prog = P) (hw : X.w = w) (T : Turn P w X.K tg J fp it tn) (hco : ge.scope.isCoroutine = false)
    (pg : PG (genX X s0 H0 (A1.over (.compLoop (.GeneratorExp elt [⟨tg, iter, ifs, 0⟩] scope gpos) 0 (.ref it) .none ge) []) ge fp) tg g)
    (pt : PTs (genX X s0 H0 (A1.over (.compLoop (.GeneratorExp elt [⟨tg, iter, ifs, 0⟩] scope gpos) 0 (.ref it) .none ge) []) ge fp) ifs tt)
    (pe : PE (genX X s0 H0 (A1.over (.compLoop (.GeneratorExp elt [⟨tg, iter, ifs, 0⟩] scope gpos) 0 (.ref it) .none ge) []) ge fp) elt te)
    (W : Nat → Nat → Hp → Prop) (Qn : Hp → Prop) (Qy : VK)
    (turn : ∀ i m H, W i m H → (J.stop i H ∧ Qn H) ∨ (J.go i H ∧ ∃ Nx : Hp → Prop, (∀ H', Nx H' → ∃ m', m' < m ∧ W (i + 1) m' H') ∧ ∀ x H', J.yld i H x H' → g x (wipe σ vs) H' fun σ2 H2 => wipe σ2 vs = wipe σ vs ∧ tt σ2 H2 fun b H3 =>
      if b = true then te σ2 H3 fun y H4 => Qy y H4 else Nx H3)) :
    ∀ (m i : Nat) (H : Hp) (s₀ s : Shared), Inv (genX X s0 H0 (A1.over (.compLoop (.GeneratorExp elt [⟨tg, iter, ifs, 0⟩] scope gpos) 0 (.ref it) .none ge) []) ge fp) [] (wipe σ vs) H s → tn i s.heap → (∀ b ∈ fp, H b = none) → W i m H →
      Seg (model P w) A1 (fun n s₀ r s₁ => r = .ok .next ∧ ∃ σ' H', Inv (genX X s0 H0 (A1.over (.compLoop (.GeneratorExp elt [⟨tg, iter, ifs, 0⟩] scope gpos) 0 (.ref it) .none ge) []) ge fp) [] σ' H' s₁ ∧ Qn H')
        (fun n s₀ v s₁ kap => ∃ y σ' H', Inv (genX X s0 H0 (A1.over (.compLoop (.GeneratorExp elt [⟨tg, iter, ifs, 0⟩] scope gpos) 0 (.ref it) .none ge) []) ge fp) [] σ' H' s₁ ∧ RelV y v ∧ Qy y H') 1 s₀
        (.compLoop (.GeneratorExp elt [⟨tg, iter, ifs, 0⟩] scope gpos) 0 (.ref it) .none ge) ((model P w).den (.compLoop (.GeneratorExp elt [⟨tg, iter, ifs, 0⟩] scope gpos) 0 (.ref it) .none ge)) [] s := by
  subst hP hw
  generalize hXg : genX X s0 H0 (A1.over (.compLoop (.GeneratorExp elt [⟨tg, iter, ifs, 0⟩] scope gpos) 0 (.ref it) .none ge) []) ge fp = Xg at pg pt pe
  have hA : Xg.A = A1.over (.compLoop (.GeneratorExp elt [⟨tg, iter, ifs, 0⟩] scope gpos) 0 (.ref it) .none ge) [] := by rw [← hXg]
  have hpr : Xg.prog = X.prog := by rw [← hXg]
  have hww : Xg.w = X.w := by rw [← hXg]
  have hK : Xg.K = X.K := by rw [← hXg]
  have hcalm : Xg.calm = true := by rw [← hXg]
  have hxe : ∀ e s', ¬ Xg.xe e s' := fun e s' h => by rw [← hXg] at h; exact h
  have henv : Xg.env = ge := by rw [← hXg]
  have hex : Xg.ex = fp := by rw [← hXg]
  have hpn : Xg.pn = [] := by rw [← hXg]
  intro m
  induction m using Nat.strongRecOn with
  | ind m ih =>
    intro i H s₀ s I st nf w
    have stat : ∀ {σ' : L2.St} {H' : Hp} {s' : Shared}, Inv Xg [] σ' H' s' → (∀ b ∈ fp, H' b = none) → ∀ b ∈ fp, FpOk Xg [] H' b := fun {σ' H' s'} I' hn b hb =>
      have hb' : b ∈ Xg.ex := by rw [hex]; exact hb
      ⟨hn b hb, (I'.ok.exf b hb').1, I'.ok.exfs b hb', .inl hb', fun x c e => (I'.ok.exf b hb').2 x c e, fun p hp => by rw [hpn] at hp; cases hp⟩
    show Seg _ A1 _ _ _ s₀ _ ((compTurn (.GeneratorExp elt [⟨tg, iter, ifs, 0⟩] scope gpos) 0 (.ref it) .none ge).onRaise (leaving ge)) [] s
    rw [compTurn_gen, Sem.onRaise_eq_wrap]
    refine seg_bind_wrap (wpAny_standAt ?_)
    rcases turn i m H w with ⟨stop, qq⟩ | ⟨go, Nx, hNx, step⟩
    · have td := T.done Xg hpr hww hK hcalm i [] s _ H (fun _ _ => False) I (stat I nf) st stop
      rw [hA] at td
      refine seg_bind_wrap (wpAny_mono td (fun r s1 h => ?_) fun _ _ z => z.elim)
      obtain ⟨rfl, I1⟩ := h
      exact seg_end (.ok .next) ⟨rfl, _, H, I1, qq⟩
    · have ti := T.item Xg hpr hww hK hcalm i [] s _ H (fun _ _ => False) I (stat I nf) st go
      rw [hA] at ti
      refine seg_bind_wrap (wpAny_mono ti (fun r s1 h => ?_) fun _ _ z => z.elim)
      obtain ⟨u, rfl, h1⟩ := h
      refine seg_bind_wrap (wpAny_mono h1 (fun _ s2 h2 => ?_) fun _ _ z => z.elim)
      obtain ⟨x, H2, I2, r2, y2, st2, n2⟩ := h2
      have I2' := I2.pinned (stat I2 n2) (T.obj _ _ st2)
      have p3 := pg.run _ s2 _ H2 x u _ I2' r2 (step x H2 y2)
      rw [hpr, hww, hA, henv] at p3
      refine seg_bind_wrap (wpAny_mono p3 (fun _ s3 h3 => ?_) fun _ _ z => (hxe _ _ z).elim)
      obtain ⟨σ3, H3, I3, hw3, q3⟩ := h3
      have p4 := pt.run _ s3 σ3 H3 _ I3 q3
      rw [hpr, hww, hA, henv] at p4
      refine seg_bind_wrap (wpAny_mono p4 (fun ok s4 h4 => ?_) fun _ _ z => (hxe _ _ z).elim)
      obtain ⟨H4, I4, q4⟩ := h4
      cases ok with
      | false =>
        rw [if_neg Bool.false_ne_true] at q4
        simp only [Bool.false_eq_true, if_false]
        obtain ⟨m', hm, w'⟩ := hNx H4 q4
        have pin' : ∀ b ∈ fp, ∀ o, s2.heap.get? b = some o → s4.heap.get? b = some o ∧ H4 b = none := fun b hb o e =>
          let z := I4.pin (b, o) (List.mem_append_right _ (List.mem_append_right _ (mem_pinsAt hb e)))
          ⟨z.1, z.2.1⟩
        have hl : (wipe σ vs).length = σ3.length := by rw [← hw3, wipe_length]
        refine seg_again rfl (ih m' hm (i + 1) H4 s₀ s4 ((I4.unpinned (pins := [])).weak hl (fun j v e => ?_)) (T.keep _ _ _ st2 fun b hb o e => (pin' b hb o e).1) (fun b hb => ?_) w')
        · rw [← hw3] at e
          exact (wipe_some e).1
        · obtain ⟨o, e, _⟩ := T.obj _ _ st2 b hb
          exact (pin' b hb o e).2
      | true =>
        rw [if_pos rfl] at q4
        simp only [if_true]
        have hy : ∀ v, yieldOut ge v = yieldValue v := fun v => by simp only [yieldOut, hco, Bool.false_eq_true, if_false]
        simp only [hy]
        have p5 := pe.run _ s4 σ3 H4 _ I4 q4
        rw [hpr, hww, hA, henv] at p5
        rw [Sem.bind_eq_wrap', Sem.bind_eq_wrap', Sem.wrap_wrap, Sem.wrap_wrap]
        refine seg_wrap (wpAny_mono p5 (fun v s5 h5 => ?_) fun _ _ z => (hxe _ _ z).elim)
        obtain ⟨y, H5, I5, r5, q5⟩ := h5
        exact seg_at (seg_yield rfl rfl rfl ⟨y, σ3, H5, I5.unpinned (pins := []), r5, q5⟩)
theorem AllBare.setG {s : Shared} {g : Nat} {x : GenState} (h : AllBare s.gens) (hx : x.bare = true) : AllBare (s.setGen g x).gens := fun y hy => by
  obtain ⟨i, hi, rfl⟩ := Array.mem_iff_getElem.mp hy
  have hi' : i < s.gens.size := by rw [setGen_size] at hi; exact hi
  show ((s.gens.setIfInBounds g x)[i]'(by simpa using hi')).bare = true
  rw [Array.getElem_setIfInBounds (by simpa using hi')]
  split
  · exact hx
  · exact h _ (Array.getElem_mem hi')
/-- what such a call reads: like a comprehension that stops at its first item -/
def tNextG (wi : TI) (g : TG) (tt : TT) (te : TE) (vs : List Nat) (P : Addr) : TE := fun σ H Q => wi σ H fun J H1 => GxR.TabG H1 P ∧ ∀ H2, (∃ ps more, H1 P = some (.tbl ps) ∧ H2 = upd H1 P (.tbl (ps ++ more)) ∧ TriplesOk (ps ++ more).toList) →
  ∃ W : Nat → Nat → Hp → Prop, (∃ m, W 0 m H2) ∧ ∀ i m H, W i m H → (J.stop i H ∧ Q .non H) ∨ (J.go i H ∧ ∃ Nx : Hp → Prop, (∀ H', Nx H' → ∃ m', m' < m ∧ W (i + 1) m' H') ∧ ∀ x H', J.yld i H x H' → g x (wipe σ vs) H' fun σ2 H2 => wipe σ2 vs = wipe σ vs ∧ tt σ2 H2 fun b H3 =>
    if b = true then te σ2 H3 fun y H4 => Q y H4 else Nx H3)
theorem pe_nextG {c P : Addr} {elt tg iter : Expr} {ifs : List Expr} {scope : Scope} {own : List (Str × Nat)} {p pos gpos cp : Pos} {j : Nat} {wi : TI} {g : TG} {tt : TT} {te : TE} {k : Nat}
    (hr : Room k X.A) (hg : Gl X "next") (hm : X.mg "next" = none) (TB : GxR.TabB X.base X.mg c P) (hcode : X.env.code = .ref c) (ok : GSc X.N X.env.scope scope own) (hN : X.N.Nodup) (hco : scope.isCoroutine = false) (dot : scope.names.lookup (".0" : Str) = some NameKind.local) (hi : PI X tg iter wi)
    (pg : ∀ (s : Shared) (H : Hp) (Ag : Around) (C : Addr) (code : Value) (fp : List Addr), Room k Ag → PG (genX X s H Ag (genEnv scope (cloFrom X.env.cells scope.names []) C code builtinsNs X.env) fp) tg g)
    (pt : ∀ (s : Shared) (H : Hp) (Ag : Around) (C : Addr) (code : Value) (fp : List Addr), Room k Ag → PTs (genX X s H Ag (genEnv scope (cloFrom X.env.cells scope.names []) C code builtinsNs X.env) fp) ifs tt)
    (pe : ∀ (s : Shared) (H : Hp) (Ag : Around) (C : Addr) (code : Value) (fp : List Addr), Room k Ag → PE (genX X s H Ag (genEnv scope (cloFrom X.env.cells scope.names []) C code builtinsNs X.env) fp) elt te)
    (hr2 : Room (k + 2) X.A)
    (hs : ∀ v, genFold iter X.env v = pure v)
    (he : starEach [.GeneratorExp elt [⟨tg, iter, ifs, 0⟩] scope gpos, .Constant .none j cp] X.env = (false, eval (.GeneratorExp elt [⟨tg, iter, ifs, 0⟩] scope gpos) X.env) :: starEach [.Constant .none j cp] X.env := by rfl)
    (he2 : starEach [.Constant .none j cp] X.env = (false, eval (.Constant .none j cp) X.env) :: starEach [] X.env := by rfl) :
    PE X (.Call (.Name "next" p) [.GeneratorExp elt [⟨tg, iter, ifs, 0⟩] scope gpos, .Constant .none j cp] [] pos) (tNextG wi g tt te (own.map (·.2)) P) := by
  refine ⟨fun pins s σ H Q I h => ?_⟩
  refine wpAny_Call_Name_kw (ld_blt (u := .builtin "next") I hg hm (by decide +kernel) ?_)
  refine PyProof.Rows.callWith_builtin1 ?_ he (by rfl)
  rw [he]
  show wpAny _ _ (spliced ((false, eval (.GeneratorExp elt [⟨tg, iter, ifs, 0⟩] scope gpos) X.env) :: backTo pos (starEach [.Constant .none j cp] X.env))) _ _ s
  refine Calls.spliced_cons ?_
  have hfree : ∀ y ∈ scope.names, y.2 = .free → ∃ c, X.env.cells.lookup y.1 = some c := fun y hy e => by
    rcases ok.blk.free y hy e with q | q
    · exact I.ok.has _ (.inl q)
    · exact I.ok.has _ (.inr q)
  refine wpAny_GeneratorExp_make hco (closure_ok hfree) ok.nocell dot ok.blk.kind (by have := hr.dp; omega) ?_ hs
  refine thn (hi.run pins s σ H _ I h) fun xv s1 hx => thn hx fun itv s2 h2 => ?_
  obtain ⟨it, fp, tn, J, H2, e, I2, T, st2, f2, ⟨ps, hP, ht⟩, q⟩ := h2
  subst e
  refine ⟨I2.nolimit, ?_⟩
  have hPs : s2.heap.get? P = some { cls := .none, data := .fields ps } := I2.hok P _ hP
  have cd : PySem.W.CodeHd s2.heap c P := TB.code.keeps fun b u e => I2.bk b u e
  have sz : ∀ b ∈ fp, b < s2.heap.objs.size := fun b hb => by
    obtain ⟨o, e, _⟩ := T.obj _ _ st2 b hb
    exact Heap.lt_size e
  have cont : ∀ (code : Value) (h3 : Heap) (tk : Nat) (ps' : Array Value), Heap.ExtBut P s2.heap h3 → s2.heap.objs.size ≤ h3.objs.size → h3.get? P = some { cls := .none, data := .fields ps' } → (∃ more, ps' = ps ++ more) → TriplesOk ps'.toList →
      wpAny (model X.prog X.w) X.A (builtinsFor X.env.globals X.env.builtins) (fun bi s₄ => ∀ h', h'.Ns s₄.heap.objs.size (fun y => if y = ".0" then some (Value.ref it) else none) → Heap.SameBut s₄.heap.objs.size (s₄.heap.push { cls := .type "frame", data := .dict #[] }) h' →
          (fun u s1 => wpAny (model X.prog X.w) X.A (spliced (backTo pos (starEach [.Constant .none j cp] X.env))) (fun us s₁ => wpAny (model X.prog X.w) X.A (call (.builtin "next") (u :: us)) (EP X pins σ Q) X.xe s₁) X.xe s1) (.ref h'.objs.size) { s₄ with
            gens := s₄.gens.push (.fresh (.compStart (.GeneratorExp elt [⟨tg, iter, ifs, 0⟩] scope gpos) 0 (.ref it) .none (genEnv scope (cloFrom X.env.cells scope.names []) s₄.heap.objs.size code bi X.env))),
            toks := s₄.toks + 1 + 1 + 1,
            heap := h'.push { cls := .type "generator", data := .fields #[.int s₄.gens.size 0, .str "<genexpr>" (s₄.toks + 1), .str (X.env.qual ++ "<genexpr>") (s₄.toks + 1 + 1)] } }) X.xe { s2 with heap := h3, toks := tk } := by
    intro code h3 tk ps' hx hsz hP3 hmore ht3
    obtain ⟨bm, ob, e1, e2, e3, e4, e5, e6, e7, e8⟩ := TB.bm
    have keep3 : ∀ b u, b ≠ P → s2.heap.get? b = some u → h3.get? b = some u := fun b u hb e => hx b u hb e
    refine wpAny_builtinsFor (m := X.mg) (by rw [I2.ok.glob]; exact (I2.mod.glob.keeps I2.bk).extBut hx TB.gP) e1 e2 (keep3 _ _ e4 (I2.bk _ _ e5)) e6 e7 e8 ?_
    obtain ⟨more, em⟩ := hmore
    have I3 : Inv X pins σ (upd H2 P (.tbl (ps ++ more))) { s2 with heap := h3, toks := tk } := GxR.inv_tab (more := more) (h' := h3) (g' := s2.gens) (d' := s2.drawn) (t' := tk) I2 hP keep3 (by rw [← em]; exact hP3) I2.bare
    obtain ⟨W, ⟨m0, w0⟩, turn⟩ := q (upd H2 P (.tbl (ps ++ more))) ⟨ps, more, hP, rfl, by rw [← em]; exact ht3⟩
    generalize hH3 : upd H2 P (.tbl (ps ++ more)) = H3 at I3 w0 turn
    have nP : ∀ b ∈ fp, b ≠ P := fun b hb e => by
      have := (f2 b hb).1
      rw [e, hP] at this
      cases this
    have f3 : ∀ b ∈ fp, FpOk X pins H3 b := fun b hb => ⟨by rw [← hH3, upd_ne (nP b hb)]; exact (f2 b hb).1, (f2 b hb).2⟩
    generalize hs3 : ({ s2 with heap := h3, toks := tk } : Shared) = s3 at I3
    have hh3 : s3.heap = h3 := by rw [← hs3]
    have st3 : tn 0 s3.heap := T.keep _ _ _ st2 fun b hb o e => by rw [hh3]; exact keep3 b o (nP b hb) e
    have sz3 : ∀ b ∈ fp, b < s3.heap.objs.size := fun b hb => by rw [hh3]; exact Nat.lt_of_lt_of_le (sz b hb) hsz
    intro h' hn' hs'
    generalize hge : genEnv scope (cloFrom X.env.cells scope.names []) s3.heap.objs.size code builtinsNs X.env = ge
    generalize hgo : ({ cls := .type "generator", data := .fields #[.int s3.gens.size 0, .str "<genexpr>" (s3.toks + 1), .str (X.env.qual ++ "<genexpr>") (s3.toks + 1 + 1)] } : Obj) = go
    show wpAny (model X.prog X.w) X.A (spliced (backTo pos (starEach [.Constant .none j cp] X.env))) _ X.xe _
    generalize hs5 : ({ s3 with gens := s3.gens.push (.fresh (.compStart (.GeneratorExp elt [⟨tg, iter, ifs, 0⟩] scope gpos) 0 (.ref it) .none ge)), toks := s3.toks + 1 + 1 + 1, heap := h'.push go } : Shared) = s5
    have hs5' := hs5.symm
    rw [he2]
    show wpAny _ _ (spliced ((false, eval (.Constant .none j cp) X.env) :: backTo pos (starEach [] X.env))) _ _ s5
    refine Calls.spliced_cons (Constant_none (Calls.spliced_nil ?_))
    have keep5 : ∀ b o, s3.heap.get? b = some o → s5.heap.get? b = some o := fun b o e => by
      rw [hs5']
      exact Heap.get?_push_of_some _ (hs'.extBut b o (Nat.ne_of_lt (Heap.lt_size e)) (Heap.get?_push_of_some _ e))
    have hgen : s5.heap.IsGen h'.objs.size s3.gens.size := ⟨go, _, _, by rw [hs5']; exact Heap.get?_push_size _ (by rw [← hgo]; rfl), by rw [← hgo], by rw [← hgo], by rw [← hgo]⟩
    have hgs : s5.gens[s3.gens.size]? = some (.fresh (.compStart (.GeneratorExp elt [⟨tg, iter, ifs, 0⟩] scope gpos) 0 (.ref it) .none ge)) := by rw [hs5']; exact Array.getElem?_push_size ..
    have os5 : s5.os = s3.os := by rw [hs5']
    have bare5 : AllBare s5.gens := by rw [hs5']; exact AllBare.push I3.bare rfl
    have ns5 : s5.heap.Ns s3.heap.objs.size (fun y => if y = ".0" then some (Value.ref it) else none) := by rw [hs5']; exact hn'.push _
    have lim5 : s5.heap.NoLimit := I3.nolimit.keeps keep5
    have hrG : Room k (X.A.in1.in1.over (.compLoop (.GeneratorExp elt [⟨tg, iter, ifs, 0⟩] scope gpos) 0 (.ref it) .none ge) []) := by
      refine ⟨hr.hd, ?_, ?_⟩
      · have := hr2.dp
        show X.A.depth + 0 + 1 + 3 * k + 5 < recursionLimit
        omega
      · have := hr2.un
        show X.A.units + 1 + 1 + 0 + 3 + 16 * k + 200 < cLine
        omega
    have hfr : (X.A.in1.in1.over (.compLoop (.GeneratorExp elt [⟨tg, iter, ifs, 0⟩] scope gpos) 0 (.ref it) .none ge) []).frames = some (ge :: X.stack) := by
      show pushEnvs [ge] (pushEnvs [] X.A.frames) = _
      rw [I3.ok.frames]
      rfl
    have ig : ∀ s6 : Shared, s6.os = s5.os → AllBare s6.gens → s6.heap = s5.heap → Inv (genX X s3 H3 (X.A.in1.in1.over (.compLoop (.GeneratorExp elt [⟨tg, iter, ifs, 0⟩] scope gpos) 0 (.ref it) .none ge) []) ge fp) [] (wipe σ (own.map (·.2))) H3 s6 := fun s6 o6 b6 h6 => by
      have := gen_start (own := own) (fp := fp) (Ag := X.A.in1.in1.over (.compLoop (.GeneratorExp elt [⟨tg, iter, ifs, 0⟩] scope gpos) 0 (.ref it) .none ge) []) (code := code) (s5 := s6) I3 ok hN (fun b hb => ⟨f3 b hb, sz3 b hb⟩) (by rw [hge]; exact hfr) hr.hd (o6.trans os5) b6 (fun b o e => by rw [h6]; exact keep5 b o e) (by rw [h6]; exact ns5)
      rw [hge] at this
      exact this
    have back : ∀ {σ' : L2.St} {H' : Hp} {s6 s7 : Shared} , Inv (genX X s3 H3 (X.A.in1.in1.over (.compLoop (.GeneratorExp elt [⟨tg, iter, ifs, 0⟩] scope gpos) 0 (.ref it) .none ge) []) ge fp) [] σ' H' s6 → s7.os = s6.os → AllBare s7.gens → (∀ b o, s6.heap.get? b = some o → s7.heap.get? b = some o) → Inv X pins σ H' s7 := fun {σ' H' s6 s7} I6 o7 b7 k7 => by
      have I7 : Inv X pins σ H' s6 := I3.call' (ch := fp) I6.os I6.base I6.hok I6.bare fun b hb => ⟨(f3 b hb).2.2.2.1, (f3 b hb).2.1, (f3 b hb).2.2.2.2.1, (f3 b hb).2.2.2.2.2⟩
      exact I7.call' (ch := []) o7 (Un.kept k7) (I7.hok.kept k7) b7 fun b hb => absurd hb (by simp)
    have hex := pg s3 H3 _ s3.heap.objs.size code fp hrG
    have htx := pt s3 H3 _ s3.heap.objs.size code fp hrG
    have hpx := pe s3 H3 _ s3.heap.objs.size code fp hrG
    rw [hge] at hex htx hpx
    have loop := fun s₀ s6 o6 b6 h6 => seg_gen1 (gpos := gpos) (vs := own.map (·.2)) rfl rfl T (by rw [← hge]; exact hco) hex htx hpx W (Q .non) Q turn m0 0 H3 s₀ s6 (ig s6 o6 b6 h6) (by rw [h6]; exact T.keep _ _ _ st3 fun b _ o e => keep5 b o e) (fun b hb => (f3 b hb).1) w0
    -- next(g, None)
    refine Calls.call_function_entry (by decide +kernel) (by decide +kernel) PySem.W.kdk_entry_next (PySem.W.kdk_args_next2 _ _) ?_
    unfold Builtin.«next»
    refine wpAny_bind (m := someArgs "next" 1 2 _) (wpAny_of_eq (a := [Value.ref h'.objs.size, Value.none]) (by first | rfl | kernel_rfl!) ?_)
    dsimp only
    refine wpAny_bind (wpAny_specialOf (name := Str.ofString "__next__") hgen.typeIs slot_gen_next.lookup ?_)
    refine wpAny_ite_split (fun hab => absurd hab (by decide)) (fun _ => ?_)
    refine wpAny_bind ?_
    refine wpAny_pyNext_genexpQ (A := X.A.in1) (n := 1) (P := fun n s₀ s₁ => ∃ σ' H', Inv (genX X s3 H3 (X.A.in1.in1.over (.compLoop (.GeneratorExp elt [⟨tg, iter, ifs, 0⟩] scope gpos) 0 (.ref it) .none ge) []) ge fp) [] σ' H' s₁ ∧ Q .non H')
      (Y := fun n s₀ v s₁ kap => ∃ y σ' H', Inv (genX X s3 H3 (X.A.in1.in1.over (.compLoop (.GeneratorExp elt [⟨tg, iter, ifs, 0⟩] scope gpos) 0 (.ref it) .none ge) []) ge fp) [] σ' H' s₁ ∧ RelV y v ∧ Q y H') hr.hd lim5 (by have := hr2.dp; show X.A.depth < recursionLimit; omega) hgen hgs ⟨rfl, ?_⟩ (fun v s₁ gs' hb hv => ?_) (fun s₁ hp h6 hk => ?_)
    · show Seg _ X.A.in1.in1 _ _ 1 _ _ ((compStart (.GeneratorExp elt [⟨tg, iter, ifs, 0⟩] scope gpos) 0 (.ref it) .none ge).onRaise (leaving ge)) [] _
      unfold compStart
      rw [Sem.onRaise_eq_wrap]
      show Seg _ X.A.in1.in1 _ _ 1 _ _ ((ask >>= _).wrap _ _ _ _) [] _
      refine seg_bind_wrap (wpAny_askSetting ?_)
      have lp := loop (s5.setGen s3.gens.size .running) (s5.setGen s3.gens.size .running) rfl (AllBare.setG bare5 rfl) rfl
      split
      · exact seg_again rfl lp
      · have st6 : tn 0 (s5.setGen s3.gens.size .running).heap := T.keep _ _ _ st3 fun b _ o e => keep5 b o e
        first
          | exact seg_bind_wrap (wpAny_rule (seg_bind_wrap (wpAny_standAt (seg_bind_wrap (T.self _ 0 _ _ _ st6 (seg_again rfl lp))))))
          | (refine seg_bind_wrap (wpAny_rule ?_); show Seg _ X.A.in1.in1 _ _ 1 _ _ ((standAt iter.pos >>= _).wrap _ _ _ _) [] _; exact seg_bind_wrap (wpAny_standAt (seg_bind_wrap (T.self _ 0 _ _ _ st6 (seg_again rfl lp)))))
    · obtain ⟨y, σ', H', I6, r6, q6⟩ := hv
      refine wpAny_pure ⟨v, rfl, y, H', back I6 rfl (AllBare.setG I6.bare hb) (fun _ _ e => e), r6, q6⟩
    · obtain ⟨σ', H', I6, q6⟩ := hp
      exact wpAny_pure ⟨Value.none, rfl, .non, H', back I6 rfl (AllBare.setG I6.bare rfl) hk, rfl, q6⟩
  cases hf : codeAmong gpos ps.toList with
  | none =>
    refine wpAny_genexprCodeX hcode (cd.code hPs ht) (cd.tab hPs) hf fun c' h' tk hx hge hlt hco' _ htab' _ => ?_
    obtain ⟨o1, vs, f1, tf, fl, tg', inF, tx, tt', op, _, _, _, _, _, _, _, _, _, htr, _⟩ := hco'
    exact cont _ h' tk _ hx (Nat.le_trans hge (Nat.le_of_lt hlt)) htab'.2 ⟨_, rfl⟩ htr
  | some cv =>
    refine wpAny_genexprCode_hit hcode (cd.code hPs ht) hf ?_
    exact cont cv s2.heap s2.toks ps (Heap.ExtBut.refl _ _) (Nat.le_refl _) hPs ⟨#[], by simp⟩ ht
end
end Fr
namespace Fr
open PySem PySem.Spec PyProof.Rows L2 GenW
/-- the frames of a generator expression in the contexts X -/
abbrev genF {ι : Type} (k : Nat) (X : ι → Cx) (scope : Scope) : (ι × Shared × Hp × { A : Around // Room k A } × Addr × Value × List Addr) → Cx := fun z => genX (X z.1) z.2.1 z.2.2.1 z.2.2.2.1.1 (genEnv scope (cloFrom (X z.1).env.cells scope.names []) z.2.2.2.2.1 z.2.2.2.2.2.1 builtinsNs (X z.1).env) z.2.2.2.2.2.2
section
variable {T : Tx} {ι : Type} {X : ι → Cx} {ρ : En} {k : Nat} {a b : Expr} {pos : Pos} {x y : D}
theorem Fam.gen {j : Nat} (hX : Fam T j X) (scope : Scope) : Fam T k (genF k X scope) := ⟨fun i => hX.P i.1, fun i => hX.w i.1, fun i => hX.K i.1, fun i => hX.mg i.1, fun i => hX.base i.1, fun _ => rfl, fun i => i.2.2.2.1.2⟩
def foundD (src : List D) (t : D → Bool) (f : D → D) : D := match src.find? t with
  | some d => f d
  | none => .non
theorem je_nextG {c P : Addr} {elt tg iter : Expr} {ifs : List Expr} {scope : Scope} {own : List (Str × Nat)} {p gpos cp : Pos} {j : Nat} {g : TG} {fr : D → En} {src : List D} {t : D → Bool} {f : D → D} (hX : Fam T (k + 2) X) (hm : T.mg "next" = none) (TB : GxR.TabB T.base T.mg c P) (hP : P ∈ T.tabs) (hcode : ∀ i, (X i).env.code = .ref c)
    (hN : ∀ i, (X i).N.Nodup) (ok : ∀ i, GSc (X i).N (X i).env.scope scope own) (hi : JIt T X ρ tg iter src) (hgp : ∀ i, PG (genF k X scope i) tg g) (hgr : ∀ d ∈ src, LcG T g (own.map (·.2)) ρ d (fr d))
    (ht : (ifs = [] ∧ ∀ d ∈ src, t d = true) ∨ ∃ c, ifs = [c] ∧ ∀ d ∈ src, JT T (genF k X scope) (fr d) c (t d)) (he : ∀ d ∈ src, t d = true → JE T (genF k X scope) (fr d) elt (f d))
    (hco : scope.isCoroutine = false := by rfl) (dot : scope.names.lookup (".0" : Str) = some NameKind.local := by rfl) (hg : ∀ i, Gl (X i) "next" := by intro _; rfl) (hs : ∀ i v, genFold iter (X i).env v = pure v := by intro _ _; rfl)
    (he1 : ∀ i, starEach [.GeneratorExp elt [⟨tg, iter, ifs, 0⟩] scope gpos, .Constant .none j cp] (X i).env = (false, eval (.GeneratorExp elt [⟨tg, iter, ifs, 0⟩] scope gpos) (X i).env) :: starEach [.Constant .none j cp] (X i).env := by intro _; rfl)
    (he2 : ∀ i, starEach [.Constant .none j cp] (X i).env = (false, eval (.Constant .none j cp) (X i).env) :: starEach [] (X i).env := by intro _; rfl) :
    JE T X ρ (.Call (.Name "next" p) [.GeneratorExp elt [⟨tg, iter, ifs, 0⟩] scope gpos, .Constant .none j cp] [] pos) (foundD src t f) := by
  obtain ⟨wi, pi, xi⟩ := hi
  let te : TE := canE (genF k X scope) elt
  let tt : TT := fun σ H Q => ∀ i pins s, Inv (genF k X scope i) pins σ H s → wpAny (model (genF k X scope i).prog (genF k X scope i).w) (genF k X scope i).A (forIn ifs true fun c r => if r = true then do let ok ← isTrue c (genF k X scope i).env (eval c (genF k X scope i).env); pure (ForInStep.yield ok) else pure (ForInStep.yield r)) (TP (genF k X scope i) pins σ Q) (genF k X scope i).xe s
  have hte : ∀ d ∈ src, t d = true → AE T te (fr d) (f d) := fun d hd ht' => (he d hd ht').can
  have htt : ∀ d ∈ src, AT T tt (fr d) (t d) := fun d hd ps σ H hh hE Q q i pins s I => by
    rcases ht with ⟨e, h⟩ | ⟨c, e, h⟩
    · subst e
      exact wpAny_tests_nil ⟨H, I, by rw [← h d hd]; exact q H (Ext.refl H)⟩
    · subst e
      obtain ⟨u, p, y⟩ := h d hd
      exact wpAny_tests_one ((p i).run pins s σ H Q I (y ps σ H hh hE Q q))
  refine ⟨tNextG wi g tt te (own.map (·.2)) P, fun i => pe_nextG (k := k) ((hX.room i).mono (by omega)) (hg i) (by rw [hX.mg i]; exact hm) (by rw [hX.mg i, hX.base i]; exact TB) (hcode i) (ok i) (hN i) hco dot (pi i)
    (fun s H Ag C code fp hr => hgp (i, s, H, ⟨Ag, hr⟩, C, code, fp)) (fun s H Ag C code fp hr => ⟨fun pins s' σ H' Q I h => h (i, s, H, ⟨Ag, hr⟩, C, code, fp) pins s' I⟩) (fun s H Ag C code fp hr => can_pe (X := genF k X scope) elt (i, s, H, ⟨Ag, hr⟩, C, code, fp)) (hX.room i) (hs i) (he1 i) (he2 i), fun ps σ H hh hE Q q => ?_⟩
  refine xi ps σ H hh hE _ fun J H1 e1 wk => ⟨e1.tab (hh.tab P hP), ?_⟩
  rintro H2 ⟨tp, more, hp, rfl, htr⟩
  have e2 : Ext H1 (upd H1 P (.tbl (tp ++ more))) := fun a o ha => by
    by_cases h : a = P
    · subst h
      rw [hp] at ha
      cases ha
      exact ⟨_, upd_same, .inr ⟨tp, more, rfl, rfl, fun _ => htr⟩⟩
    · exact ⟨o, by rw [upd_ne h]; exact ha, .inl rfl⟩
  refine ⟨fun n m H' => m = src.length - n ∧ n ≤ src.length ∧ Ext (upd H1 P (.tbl (tp ++ more))) H' ∧ ∀ d ∈ src.take n, t d = false, ⟨_, rfl, Nat.zero_le _, Ext.refl _, fun d hd => by simp at hd⟩, ?_⟩
  rintro n m H' ⟨rfl, hn, e3, hno⟩
  have e13 := e2.trans e3
  by_cases hlt : n < src.length
  · have hd := List.getElem?_eq_getElem hlt
    generalize src[n] = d at hd
    obtain ⟨go, yl⟩ := (wk H' ps (e13.del ps) ((hh.mono e1).mono e13) n).1 d hd
    refine .inr ⟨go, fun H' => Ext (upd H1 P (.tbl (tp ++ more))) H' ∧ ∀ d ∈ src.take (n + 1), t d = false, fun H' ⟨q1, q2⟩ => ⟨src.length - (n + 1), by omega, rfl, hlt, q1, q2⟩, fun x H'' hy => ?_⟩
    obtain ⟨ey, rx⟩ := yl x H'' hy
    have e3 := e3.trans ey
    have e13 := e13.trans ey
    have mem : d ∈ src := List.mem_of_getElem? hd
    have tk : src.take (n + 1) = src.take n ++ [d] := by rw [List.take_add_one, hd]; rfl
    have eA := e1.trans e13
    have hk := hh.mono eA
    refine hgr d mem ps σ _ _ _ hk (hE.ext eA) rx fun σ2 hE2 ew => ⟨ew, ?_⟩
    refine htt d mem ps _ _ hk hE2 _ fun H3 e4 => ?_
    cases htd : t d with
    | true =>
      rw [if_pos rfl]
      refine hte d mem htd ps _ H3 (hk.mono e4) (hE2.ext e4) _ fun y H4 e5 r5 => ?_
      have hf : foundD src t f = f d := by
        unfold foundD
        have : src.find? t = some d := by
          have e : src = src.take n ++ d :: src.drop (n + 1) := by
            have hl : n < src.length := (List.getElem?_eq_some_iff.mp hd).1
            have this : src[n] = d := by
              have := List.getElem?_eq_getElem hl
              rw [hd] at this
              exact (Option.some.inj this).symm
            have h1 := List.drop_eq_getElem_cons hl
            rw [this] at h1
            rw [← h1, List.take_append_drop]
          rw [e, List.find?_append]
          have : (src.take n).find? t = none := List.find?_eq_none.mpr fun z hz => by rw [hno z hz]; exact Bool.false_ne_true
          rw [this, List.find?_cons_of_pos htd]
          rfl
        rw [this]
      exact q y H4 (eA.trans (e4.trans e5)) (by rw [hf]; exact r5)
    | false =>
      rw [if_neg Bool.false_ne_true]
      refine ⟨e3.trans e4, fun z hz => ?_⟩
      rw [tk] at hz
      rcases List.mem_append.mp hz with hz | hz
      · exact hno z hz
      · rw [List.mem_singleton.mp hz]
        exact htd
  · have en : n = src.length := by omega
    subst en
    rw [List.take_length] at hno
    have hf : foundD src t f = .non := by
      unfold foundD
      rw [List.find?_eq_none.mpr fun z hz => by rw [hno z hz]; exact Bool.false_ne_true]
    exact .inl ⟨(wk H' ps (e13.del ps) ((hh.mono e1).mono e13) _).2 (Nat.le_refl _), q .non H' (e1.trans e13) (by rw [hf]; exact rep_non.mpr rfl)⟩
end
end Fr
namespace Fr
open PySem PySem.Spec PyProof.Rows L2 StX
section
variable {T : Tx} {ι : Type} {X : ι → Cx} {m : Hid} {ρ : En} {k : Nat} {a b c e : Expr} {pos : Pos} {x y d d' : D} {Φ : Pst} {Ψ : D → En → Prop} {rest : List Stmt}
/-! ### zip of two tuples -/
def zipD (l1 l2 : List D) : List D := (l1.zip l2).map fun z => .tup [z.1, z.2]
theorem jit_zip {e2 : Expr} {p tpos : Pos} {elts : List Expr} {kk : Nat} {l1 l2 : List D} (hX : Fam T k X) (hm : T.mg "zip" = none) (ha : JA T X ρ [e, e2] [.tup l1, .tup l2]) (hl : l1.length = l2.length) (hg : ∀ i, Gl (X i) "zip" := by intro _; rfl)
    (hs : ∀ i, starEach [e, e2] (X i).env = (false, eval e (X i).env) :: starEach [e2] (X i).env := by intro _; rfl) (hpl : ∀ i, (backTo pos (starEach [e2] (X i).env)).any (·.1) = false := by intro _; rfl) : JIt T X ρ (.Tuple elts kk tpos) (.Call (.Name "zip" p) [e, e2] [] pos) (zipD l1 l2) := by
  obtain ⟨ta, pa, xa⟩ := ha
  refine ⟨RZ.iZipA T.K ta, fun i => by rw [← hX.K i]; exact RZ.pi_zipA (hg i) (by rw [hX.mg i]; exact hm) (pa i) (hs i) (hpl i), fun ps σ H hh hE R q => xa ps σ H hh hE _ fun vs H1 e1 r1 => ?_⟩
  obtain ⟨v, u, rfl, h1, h2⟩ := reps_two r1
  obtain ⟨a, xs, rfl, sa, ra⟩ := rep_tup.mp h1
  obtain ⟨b, ys, rfl, sb, rb⟩ := rep_tup.mp h2
  refine ⟨a, b, xs, ys, rfl, .inr ⟨sqT_ext ext_del sa, sqT_ext ext_del sb, q _ H1 e1 fun H' ps' e2 hh' n => ⟨fun d hd => ?_, fun hn => ?_⟩⟩⟩
  · have hd' : ∃ z, (l1.zip l2)[n]? = some z ∧ d = .tup [z.1, z.2] := by
      unfold zipD at hd
      rw [List.getElem?_map] at hd
      cases hz : (l1.zip l2)[n]? with
      | none => rw [hz] at hd; cases hd
      | some z => rw [hz] at hd; exact ⟨z, rfl, (Option.some.inj hd).symm⟩
    obtain ⟨⟨d1, d2⟩, hz, rfl⟩ := hd'
    obtain ⟨z1, z2⟩ := List.getElem?_zip_eq_some.mp hz
    obtain ⟨v1, g1, q1⟩ := reps_get ra z1
    obtain ⟨v2, g2, q2⟩ := reps_get rb z2
    have s1 := sqT_ext ext_del (sqT_ext e2 sa)
    have s2 := sqT_ext ext_del (sqT_ext e2 sb)
    refine ⟨⟨xs, ys, v1, v2, s1, s2, g1, g2⟩, fun y H'' hy => ?_⟩
    obtain ⟨Tt, x', y', rfl, hT, rfl, f1, f2⟩ := hy
    have f1 := f1 xs s1
    have f2 := f2 ys s2
    rw [g1] at f1
    rw [g2] at f2
    cases f1
    cases f2
    exact ⟨Ext.new hT, rep_newT hh' hT (reps_cons.mpr ⟨_, _, rfl, Rep.ext e2 _ _ q1, reps_cons.mpr ⟨_, [], rfl, Rep.ext e2 _ _ q2, reps_nil.mpr rfl⟩⟩)⟩
  · have : (zipD l1 l2).length = l1.length := by unfold zipD; rw [List.length_map, List.length_zip]; omega
    rw [this] at hn
    exact ⟨xs, ys, sqT_ext ext_del (sqT_ext e2 sa), sqT_ext ext_del (sqT_ext e2 sb), .inl (by rw [reps_len ra]; exact hn)⟩
/-! ### while (x := e) is not None -/
theorem js_whileN {x' : Str} {p p1 p2 p3 : Pos} {j0 : _} {body : List Stmt} (j : Nat) (hp : ∀ i, PassesOwn (model (X i).prog (X i).w) (X i).A (X i).env (X i).xe) (I : Nat → En → Prop) (m0 : Nat) (h0 : I m0 ρ) (hN : ∀ i, (X i).N.Nodup)
    (step : ∀ n ρ', I n ρ' → ∃ d, JE T X ρ' e d ∧ (isNon d = false → JSs T X m (ρ'.set j (some (.d d))) body { nx := fun ρ2 => ∃ m', m' < n ∧ I m' ρ2, ct := fun ρ2 => ∃ m', m' < n ∧ I m' ρ2, bk := Φ.nx, rt := Φ.rt }) ∧ (isNon d = true → Φ.nx (ρ'.set j (some (.d d)))))
    (hi : ∀ i, (X i).N[j]? = some x' := by intro _; rfl) (hx : ∀ i, Loc (X i).env.scope x' := by first | exact fun _ => Or.inl rfl | exact fun _ => Or.inr rfl) (hf : ∀ i, (X i).fn x' = true ∨ (X i).env.scope.names.lookup x' = some .local := by first | exact fun _ => .inl rfl | exact fun _ => .inr rfl) :
    JS T X m ρ (.While (.Compare (.NamedExpr (.Name x' p) e p1) [.IsNot] [.Constant .none j0 p2] p3) body [] pos) Φ := by
  refine JS.of (ts := tWhileW (wCmp (fun x y H Q => y = .non ∧ Q (.bl (!decide (x = .non))) H) (wNm (wE (canE X e)) j) (tC .non)) (canSs X body) tNext) (fun i => ps_whileW (hp i) (ptw_cmp op_notN (pew_named (hN i) (hi i) (hx i) (pew_of (can_pe e i)) (hf i)) pe_non (nomark _)) (can_pss body i) pss_nil) fun ps σ H D' ho hE im => ?_
  refine ⟨fun m1 σ' H' => ExtM m H H' ∧ ∃ ρ', EnvR T H' ps ρ' σ' ∧ I m1 ρ', ⟨m0, (Ext.refl H).m, ρ, hE, h0⟩, ?_⟩
  rintro m1 σ1 H1 ⟨e1, ρ1, r1, i1⟩
  obtain ⟨d, hd, ht, hf'⟩ := step m1 ρ1 i1
  refine hd.can ps σ1 H1 (ho.mono e1).toHidOk r1 _ fun v H2 e2 r2 => ⟨rfl, _, rfl, ?_⟩
  have e12 : ExtM m H H2 := e1.trans e2.m
  have hE2 : EnvR T H2 ps (ρ1.set j (some (.d d))) (σ1.set j (some v)) := envR_set (x := some (.d d)) (v := some v) r2 j (r1.ext e2)
  rw [rep_isNon r2]
  cases hn : isNon d with
  | false =>
    show (if (!false) = true then _ else _)
    rw [if_pos (by decide)]
    refine ⟨fun σ' H' => ∃ m', m' < m1 ∧ ExtM m H H' ∧ ∃ ρ', EnvR T H' ps ρ' σ' ∧ I m' ρ', fun σ' H' ⟨m', l, q⟩ => ⟨m', l, q⟩, ?_⟩
    exact ht hn ps _ H2 _ (ho.mono e12) hE2 ⟨fun σ' H' ρ' e r ⟨m', l, q⟩ => ⟨m', l, e12.trans e, ρ', r, q⟩, fun v H' d σ' ρ' e r w q => im.rt v H' d σ' ρ' (e12.trans e) r (w.back e12) q, fun σ' H' ρ' e r q => im.nx σ' H' ρ' (e12.trans e) r q, fun σ' H' ρ' e r ⟨m', l, q⟩ => ⟨m', l, e12.trans e, ρ', r, q⟩⟩
  | true =>
    show (if (!true) = true then _ else _)
    rw [if_neg (by decide)]
    exact im.nx _ H2 _ e12 hE2 (hf' hn)
/-! ### texts -/
theorem je_strI {p : Pos} {i : Int} (hX : Fam T k X) (hm : T.mg "str" = none) (ha : JE T X ρ e (.int i)) (hi : i.natAbs.log2 < 1920) (hg : ∀ i, Gl (X i) "str" := by intro _; rfl) (he : ∀ i, starEach [e] (X i).env = (false, eval e (X i).env) :: starEach [] (X i).env := by intro _; rfl) : JE T X ρ (.Call (.Name "str" p) [e] [] pos) (.str (toString i)) :=
  je_callTy hX hm (fun _ => call_str_int) (by decide +kernel) (ja_cons ha ja_nil he) (fun ps H vs Q ho h q => by
    obtain ⟨v, rfl, h'⟩ := reps_one h
    exact ⟨i, by rw [rep_int.mp h'], hi, q _ H (Ext.refl H) (rep_str.mpr rfl)⟩) hg (he := he)
theorem reps_strs {H : Hp} : ∀ {l : List Str} {vs : List V}, Reps T H (l.map .str) vs → vs = l.map .str
  | [], vs, h => reps_nil.mp h
  | x :: xs, vs, h => by
    obtain ⟨y, r, rfl, q, t⟩ := reps_cons.mp h
    rw [rep_str.mp q, reps_strs t]
    rfl
theorem je_join {apos : Pos} {z : Str} {l : List Str} (hX : Fam T k X) (ha : JE T X ρ a (.str z)) (he : JE T X ρ e (.lst (l.map .str))) (hl : (l.map (·.length)).sum + l.length * z.length ≤ 16777216) (hs : ∀ i, starEach [e] (X i).env = [(false, eval e (X i).env)] := by intro _; rfl)
    (hbase : ∀ i, attributeBase a "join" (X i).env (eval a (X i).env) = eval a (X i).env := by intro _; rfl) (hline : (apos.endLine == pos.line) = true := by rfl) : JE T X ρ (.Call (.Attribute a "join" apos) [e] [] pos) (.str (Txt.join z l)) := by
  obtain ⟨ta, pa, xa⟩ := ha
  obtain ⟨te, pe, xe⟩ := he
  refine ⟨tM1 (fun x xs H Q => ∃ a p, ∃ ys : List Str, x = .str a ∧ xs = [.ref p] ∧ (SqL T.K H p (ys.map V.str) ∨ SqT T.K H p (ys.map V.str)) ∧ (ys.map (·.length)).sum + ys.length * a.length ≤ 16777216 ∧ Q (.str (Txt.join a ys)) H) ta te, fun i => by rw [← hX.K i]; exact pe_join (pa i) (pe i) (hs i) (hbase i) hline, fun ps σ H hh hE Q q => xa ps σ H hh hE _ fun v H1 e1 r1 => ⟨⟨z, rep_str.mp r1⟩, xe ps σ H1 (hh.mono e1) (hE.ext e1) _ fun u H2 e2 r2 => ?_⟩⟩
  obtain ⟨p, vs, rfl, s, rs⟩ := rep_lst.mp r2
  refine ⟨z, p, l, rep_str.mp r1, rfl, .inl ?_, hl, q _ H2 (e1.trans e2) (rep_str.mpr rfl)⟩
  rw [← reps_strs rs]
  exact sqL_ext ext_del s
/-- f'..{e}..' of three parts, the outer ones constant -/
theorem je_fstr3 {z1 z2 z : Str} {k1 k2 : _} {p1 p2 p3 : Pos} (he : JE T X ρ e (.str z)) (h1 : z.length ≤ sizeLine) (h2 : (Str.empty ++ z1).length ≤ sizeLine) (h3 : (Str.empty ++ z1 ++ z).length ≤ sizeLine) (h4 : (Str.empty ++ z1 ++ z ++ z2).length ≤ sizeLine) :
    JE T X ρ (.JoinedStr [.Constant (.str z1) k1 p1, .FormattedValue e (-1) none p2, .Constant (.str z2) k2 p3] pos) (.str (Str.empty ++ z1 ++ z ++ z2)) := by
  obtain ⟨te, pe, xe⟩ := he
  refine ⟨fun σ H Q => tJs [tC (.str z1), tFmt te, tC (.str z2)] Str.empty σ H fun out H1 => Q (.str out) H1, fun i => pe_joined (.cons pe_str (.cons (pe_fmt (pe i)) (.cons pe_str .nil))), fun ps σ H hh hE Q q => ⟨z1, rfl, h2, xe ps σ H hh hE _ fun v H1 e1 r1 => .inl ⟨z, rep_str.mp r1, h1, z, rfl, h3, z2, rfl, h4, ?_⟩⟩⟩
  exact q _ H1 e1 (rep_str.mpr rfl)
theorem je_fstr1 {z : Str} {p1 : Pos} (he : JE T X ρ e (.str z)) (h1 : z.length ≤ sizeLine) : JE T X ρ (.JoinedStr [.FormattedValue e (-1) none p1] pos) (.str z) := by
  obtain ⟨te, pe, xe⟩ := he
  exact ⟨tFmt te, fun i => pe_joined1 (pe_fmt (pe i)), fun ps σ H hh hE Q q => xe ps σ H hh hE _ fun v H1 e1 r1 => .inl ⟨z, rep_str.mp r1, h1, q _ H1 e1 (rep_str.mpr rfl)⟩⟩
/-- str(x) of a Form -/
structure StrOk (T : Tx) (j : Nat) (R : List D → D → Prop) : Prop where
  ex : ∃ g, PySem.W.findIn T.K (.ref T.cF) "__str__" = some (some (.ref g)) ∧ PySem.W.isFn T.K (.ref g) = true ∧ FnR T.P T.w T.K T.mg T.base CX0 j g (SpP T R)
def rStrOwn (C : Addr) (sp : Sp) : List V → Hp → VK → Prop := fun xs H Q => ∃ a dx vs, xs = [V.ref a] ∧ SlX.Slt H a C dx vs ∧ sp [.ref a] H (fun z H' => ∃ y, z = .str y ∧ Q z H') E0
theorem call_strOwn {Y : Cx} {C g : Addr} {j : Nat} {sp : Sp} (hs : PySem.W.findIn Y.K (.ref C) "__str__" = some (some (.ref g))) (hf : PySem.W.isFn Y.K (.ref g) = true) (F : FnR Y.prog Y.w Y.K Y.mg Y.base CX0 j g sp) (hr : Room (j + 2) Y.A) : CallR Y (.type "str") (rStrOwn C sp) := by
  intro pins s σ H xs us Q I r h
  obtain ⟨a, dx, vs, rfl, hsl, q⟩ := h
  obtain ⟨u, rfl, ru⟩ := vals1 r
  cases (show u = Value.ref a from ru)
  obtain ⟨sl, od, _, J, _⟩ := SlX.slt_inst I hsl
  have hr2 : Room j Y.A.in1.in1 := (show Room (j + 1) Y.A.in1 from Room.in1 hr).in1
  refine PySem.W.kso_call (Nat.lt_of_le_of_lt (Nat.le_add_right _ _) hr2.units) I.kIn J hs hf (wpAny_mono (wpAny_call (SlX.run_at (us := [.ref a]) (ws := [.ref a]) F hr2 I.env0.in1.in1 pass0 I (.cons rfl .nil) q)) (fun w s' z => ?_) fun _ _ x => x)
  obtain ⟨z', H', I', rz, y, ey, qz⟩ := z
  subst ey
  obtain ⟨t, e⟩ := (show ∃ t, w = Value.str y t from rz)
  cases e
  exact ⟨.str y, H', I', ⟨t, rfl⟩, qz⟩
theorem je_strF {p : Pos} {j : Nat} {R : List D → D → Prop} {z : Str} (hX : Fam T k X) (hm : T.mg "str" = none) (P : StrOk T j R) (ha : JE T X ρ e (.obj true x)) (hR : R [.obj true x] (.str z)) (hj : j + 2 ≤ k := by decide) (hg : ∀ i, Gl (X i) "str" := by intro _; rfl) (he : ∀ i, starEach [e] (X i).env = (false, eval e (X i).env) :: starEach [] (X i).env := by intro _; rfl) : JE T X ρ (.Call (.Name "str" p) [e] [] pos) (.str z) := by
  obtain ⟨g, h1, h2, F⟩ := P.ex
  exact je_callTy (r := rStrOwn T.cF (SpP T R)) hX hm (fun i => call_strOwn (by rw [hX.K i]; exact h1) (by rw [hX.K i]; exact h2) (FnR.cast (Y := X) hX i F) ((hX.room i).mono hj)) (by decide +kernel) (ja_cons ha ja_nil he) (fun ps H vs Q ho h q => by
    obtain ⟨v, rfl, h'⟩ := reps_one h
    obtain ⟨w, dx, y, rfl, s, r⟩ := rep_obj.mp h'
    exact ⟨w, dx, [some y], rfl, slt_ext ext_del s, ps, [.obj true x], .str z, ho, reps_cons.mpr ⟨_, [], rfl, h', reps_nil.mpr rfl⟩, hR, fun v H2 e2 r2 => ⟨z, rep_str.mp r2, q v H2 e2 r2⟩⟩) hg (he := he)
/-! ### sum, slices, powers -/
theorem je_sum {p : Pos} {l : List Int} (hX : Fam T k X) (hm : T.mg "sum" = none) (ha : JE T X ρ e (.lst (l.map .int))) (hg : ∀ i, Gl (X i) "sum" := by intro _; rfl) (he : ∀ i, starEach [e] (X i).env = (false, eval e (X i).env) :: starEach [] (X i).env := by intro _; rfl) : JE T X ρ (.Call (.Name "sum" p) [e] [] pos) (.int l.sum) :=
  je_callB (id := "sum") (r := rSum T.K) hX hm (fun i => by rw [← hX.K i]; exact cr_sum (hX.calm i)) (by decide +kernel) (ja_cons ha ja_nil he) (fun ps H vs Q _ h q => by
    obtain ⟨v, rfl, h'⟩ := reps_one h
    obtain ⟨a, ws, rfl, s, r⟩ := rep_lst.mp h'
    rw [reps_ints.mp r] at s
    exact ⟨a, l, rfl, sqL_ext ext_del s, q _ H (Ext.refl H) (rep_int.mpr rfl)⟩) hg (he := he)
theorem je_powW {i j : Int} (ha : JE T X ρ a (.int i)) (hb : JE T X ρ b (.int j)) (h : 0 ≤ j ∧ (Builtin.Int.intBits i : Int) * j ≤ 2 ^ 27) : JE T X ρ (.BinOp a .Pow b pos) (.int (i ^ j.toNat)) :=
  je_op1 (C := fun i j => 0 ≤ j ∧ (Builtin.Int.intBits i : Int) * j ≤ 2 ^ 27) (fun _ => opI fun _ _ _ _ _ _ _ hc q => pow_int hc.1 hc.2 q) (fun _ => rep_int.mpr rfl) h ha hb
end
end Fr
namespace Fr
open PySem PySem.Spec PyProof.Rows L2 StX
section
variable {T : Tx} {ι : Type} {X : ι → Cx} {ρ : En} {k : Nat} {a b : Expr} {pos : Pos}
theorem SlR.cast {X : Cx} {K K' : PySem.W.Frag} {f : PySem.W.Frag → V → Option Int → Option Int → Hp → VK → Prop} (e : K = K') (h : SlR X (f K)) : SlR X (f K') := e ▸ h
theorem cutV_take (xs : List V) (n : Nat) : cutV xs none (some (n : Int)) = xs.take n := by
  unfold cutV
  rw [HT.sIx_none, HT.sIx_nat, List.drop_zero, Nat.sub_zero]
  rcases Nat.le_total n xs.length with h | h
  · rw [Nat.min_eq_left h]
  · rw [Nat.min_eq_right h, List.take_of_length_le (Nat.le_refl _), List.take_of_length_le h]
theorem reps_take {H : Hp} : ∀ {l : List D} {vs : List V} (n : Nat), Reps T H l vs → Reps T H (l.take n) (vs.take n)
  | _, _, 0, _ => by rw [List.take_zero, List.take_zero]; exact reps_nil.mpr rfl
  | [], vs, n + 1, h => by rw [reps_nil.mp h]; exact reps_nil.mpr rfl
  | d :: l, vs, n + 1, h => by
    obtain ⟨v, r, rfl, h1, h2⟩ := reps_cons.mp h
    rw [List.take_succ_cons, List.take_succ_cons]
    exact reps_cons.mpr ⟨v, _, rfl, h1, reps_take n h2⟩
/-- a[:n] of a list -/
theorem je_take {p2 : Pos} {l : List D} (n : Nat) (hX : Fam T k X) (ha : JE T X ρ a (.lst l)) (hb : JE T X ρ b (.int (n : Int))) : JE T X ρ (.Subscript a (.Slice none (some b) none p2) pos) (.lst (l.take n)) := by
  obtain ⟨ta, pa, xa⟩ := ha
  obtain ⟨tb, pb, xb⟩ := hb
  refine ⟨tSl (rSlL T.K) ta tNoPart (tPart tb), fun i => pe_slice (SlR.cast (f := rSlL) (hX.K i) sl_list) (pa i) po_none (po_some (pb i)), fun ps σ H ho hE Q q => xa ps σ H ho hE _ fun v H1 e1 r1 => ?_⟩
  refine xb ps σ H1 (ho.mono e1) (hE.ext e1) _ fun u H2 e2 r2 => ⟨_, rep_int.mp r2, ?_⟩
  obtain ⟨L, vs, rfl, s, r⟩ := rep_lst.mp r1
  refine ⟨L, vs, rfl, sqL_ext (Ext.trans ext_del e2) s, fun p hp => ?_⟩
  rw [cutV_take]
  exact q _ _ ((e1.trans e2).trans (Ext.new hp)) (rep_newL ((ho.mono e1).mono e2) hp (reps_take n (Reps.ext (e2.del ps) _ _ r)))
theorem je_neD {x y : D} (hX : Fam T k X) (ha : JE T X ρ a x) (hb : JE T X ρ b y) (p1 : plainD x = true := by rfl) (p2 : plainD y = true := by rfl) (s1 : SeqAt.shaped (toPy x) = true := by rfl) (s2 : SeqAt.shaped (toPy y) = true := by rfl) : JE T X ρ (.Compare a [.NotEq] [b] pos) (.bl (!PyData.eqv (toPy x) (toPy y))) := by
  obtain ⟨ta, pa, xa⟩ := ha
  obtain ⟨tb, pb, xb⟩ := hb
  exact ⟨_, fun i => pe_cmpR (r := rNeD T.K) (by rw [← hX.K i]; exact op_neD (hX.room i).units) (pa i) (pb i) (nomark _), ae_op xa xb fun ps H v u Q _ h1 h2 q =>
    ⟨_, _, dp_ext ext_del _ _ (rep_dp x v p1 h1), dp_ext ext_del _ _ (rep_dp y u p2 h2), s1, s2, q _ H (Ext.refl H) (rep_bl.mpr rfl)⟩⟩
end
end Fr
set_option maxHeartbeats 4000000
namespace Fr
open PySem PySem.Spec PyProof.Rows L2 StX
def dP (x y : Int) : D := .tup [.int x, .int y]
def dM (p q r s : Int) : D := .tup [dP p q, dP r s]
def dI4 (a b c d : Int) : D := .tup [.int a, .int b, .int c, .int d]
abbrev N_is_whole : List Str := ["value"]
abbrev P_is_whole : List Str := ["value"]
theorem sc_is_whole : FnScope N_is_whole P_is_whole (defScope s_is_whole) := ⟨rfl, rfl, rfl, by decide +kernel, rfl, by decide +kernel, by decide +kernel⟩
abbrev N_is_integer : List Str := ["value"]
abbrev P_is_integer : List Str := ["value"]
theorem sc_is_integer : FnScope N_is_integer P_is_integer (defScope s_is_integer) := ⟨rfl, rfl, rfl, by decide +kernel, rfl, by decide +kernel, by decide +kernel⟩
abbrev N_is_within : List Str := ["value", "least", "most"]
abbrev P_is_within : List Str := ["value", "least", "most"]
theorem sc_is_within : FnScope N_is_within P_is_within (defScope s_is_within) := ⟨rfl, rfl, rfl, by decide +kernel, rfl, by decide +kernel, by decide +kernel⟩
abbrev N_require_within : List Str := ["value", "least", "most"]
abbrev P_require_within : List Str := ["value", "least", "most"]
theorem sc_require_within : FnScope N_require_within P_require_within (defScope s_require_within) := ⟨rfl, rfl, rfl, by decide +kernel, rfl, by decide +kernel, by decide +kernel⟩
abbrev N_common_of : List Str := ["one", "other"]
abbrev P_common_of : List Str := ["one", "other"]
theorem sc_common_of : FnScope N_common_of P_common_of (defScope s_common_of) := ⟨rfl, rfl, rfl, by decide +kernel, rfl, by decide +kernel, by decide +kernel⟩
abbrev N_is_prime_number : List Str := ["number", "divisor"]
abbrev P_is_prime_number : List Str := ["number"]
theorem sc_is_prime_number : FnScope N_is_prime_number P_is_prime_number (defScope s_is_prime_number) := ⟨rfl, rfl, rfl, by decide +kernel, rfl, by decide +kernel, by decide +kernel⟩
abbrev N_taken_out : List Str := ["number", "divisor", "times"]
abbrev P_taken_out : List Str := ["number", "divisor"]
theorem sc_taken_out : FnScope N_taken_out P_taken_out (defScope s_taken_out) := ⟨rfl, rfl, rfl, by decide +kernel, rfl, by decide +kernel, by decide +kernel⟩
abbrev N_factors_in : List Str := ["number", "found", "left", "divisor", "times", "step"]
abbrev P_factors_in : List Str := ["number"]
theorem sc_factors_in : FnScope N_factors_in P_factors_in (defScope s_factors_in) := ⟨rfl, rfl, rfl, by decide +kernel, rfl, by decide +kernel, by decide +kernel⟩
abbrev N_joined_in : List Str := ["first", "second", "p", "q", "r", "s", "i", "j", "k", "l"]
abbrev P_joined_in : List Str := ["first", "second"]
theorem sc_joined_in : FnScope N_joined_in P_joined_in (defScope s_joined_in) := ⟨rfl, rfl, rfl, by decide +kernel, rfl, by decide +kernel, by decide +kernel⟩
abbrev N_are_integers : List Str := ["value", "size", "entry"]
abbrev P_are_integers : List Str := ["value", "size"]
theorem sc_are_integers : FnScope N_are_integers P_are_integers (defScope s_are_integers) := ⟨rfl, rfl, rfl, by decide +kernel, rfl, by decide +kernel, by decide +kernel⟩
abbrev N_numbers_text : List Str := ["numbers", "inside", "number"]
abbrev P_numbers_text : List Str := ["numbers"]
theorem sc_numbers_text : FnScope N_numbers_text P_numbers_text (defScope s_numbers_text) := ⟨rfl, rfl, rfl, by decide +kernel, rfl, by decide +kernel, by decide +kernel⟩
abbrev N_lowest_place : List Str := ["x", "y", "share"]
abbrev P_lowest_place : List Str := ["x", "y"]
theorem sc_lowest_place : FnScope N_lowest_place P_lowest_place (defScope s_lowest_place) := ⟨rfl, rfl, rfl, by decide +kernel, rfl, by decide +kernel, by decide +kernel⟩
abbrev N_places_of_double : List Str := ["numbers", "a", "b", "c", "part", "root"]
abbrev P_places_of_double : List Str := ["numbers"]
theorem sc_places_of_double : FnScope N_places_of_double P_places_of_double (defScope s_places_of_double) := ⟨rfl, rfl, rfl, by decide +kernel, rfl, by decide +kernel, by decide +kernel⟩
abbrev N_monic_at : List Str := ["numbers", "x", "u", "v", "w"]
abbrev P_monic_at : List Str := ["numbers", "x"]
theorem sc_monic_at : FnScope N_monic_at P_monic_at (defScope s_monic_at) := ⟨rfl, rfl, rfl, by decide +kernel, rfl, by decide +kernel, by decide +kernel⟩
abbrev N_bisected : List Str := ["numbers", "low", "high", "sense", "middle"]
abbrev P_bisected : List Str := ["numbers", "low", "high", "sense"]
theorem sc_bisected : FnScope N_bisected P_bisected (defScope s_bisected) := ⟨rfl, rfl, rfl, by decide +kernel, rfl, by decide +kernel, by decide +kernel⟩
abbrev N_monic_roots : List Str := ["numbers", "u", "v", "w", "most", "part", "root", "low", "high", "found"]
abbrev P_monic_roots : List Str := ["numbers"]
theorem sc_monic_roots : FnScope N_monic_roots P_monic_roots (defScope s_monic_roots) := ⟨rfl, rfl, rfl, by decide +kernel, rfl, by decide +kernel, by decide +kernel⟩
abbrev N_places_of_cubic : List Str := ["numbers", "a", "b", "c", "d", "found", "x", "place"]
abbrev P_places_of_cubic : List Str := ["numbers"]
theorem sc_places_of_cubic : FnScope N_places_of_cubic P_places_of_cubic (defScope s_places_of_cubic) := ⟨rfl, rfl, rfl, by decide +kernel, rfl, by decide +kernel, by decide +kernel⟩
abbrev N_form_at : List Str := ["numbers", "x", "y", "a", "b", "c", "d"]
abbrev P_form_at : List Str := ["numbers", "x", "y"]
theorem sc_form_at : FnScope N_form_at P_form_at (defScope s_form_at) := ⟨rfl, rfl, rfl, by decide +kernel, rfl, by decide +kernel, by decide +kernel⟩
abbrev N_form_led : List Str := ["numbers", "change", "a", "b", "c", "d", "p", "q", "r", "s", "sense", "second", "third"]
abbrev P_form_led : List Str := ["numbers", "change"]
theorem sc_form_led : FnScope N_form_led P_form_led (defScope s_form_led) := ⟨rfl, rfl, rfl, by decide +kernel, rfl, by decide +kernel, by decide +kernel⟩
abbrev N_discriminant_of : List Str := ["numbers", "a", "b", "c", "d", "plus"]
abbrev P_discriminant_of : List Str := ["numbers"]
theorem sc_discriminant_of : FnScope N_discriminant_of P_discriminant_of (defScope s_discriminant_of) := ⟨rfl, rfl, rfl, by decide +kernel, rfl, by decide +kernel, by decide +kernel⟩
abbrev N_form_told : List Str := ["coefficients"]
abbrev P_form_told : List Str := ["coefficients"]
theorem sc_form_told : FnScope N_form_told P_form_told (defScope s_form_told) := ⟨rfl, rfl, rfl, by decide +kernel, rfl, by decide +kernel, by decide +kernel⟩
abbrev N_made_form : List Str := ["numbers"]
abbrev P_made_form : List Str := ["numbers"]
theorem sc_made_form : FnScope N_made_form P_made_form (defScope s_made_form) := ⟨rfl, rfl, rfl, by decide +kernel, rfl, by decide +kernel, by decide +kernel⟩
abbrev N_require_form : List Str := ["value"]
abbrev P_require_form : List Str := ["value"]
theorem sc_require_form : FnScope N_require_form P_require_form (defScope s_require_form) := ⟨rfl, rfl, rfl, by decide +kernel, rfl, by decide +kernel, by decide +kernel⟩
abbrev N_bezout : List Str := ["p", "q", "one", "other", "times", "first", "second"]
abbrev P_bezout : List Str := ["p", "q"]
theorem sc_bezout : FnScope N_bezout P_bezout (defScope s_bezout) := ⟨rfl, rfl, rfl, by decide +kernel, rfl, by decide +kernel, by decide +kernel⟩
abbrev N_end_change : List Str := ["place"]
abbrev P_end_change : List Str := ["place"]
theorem sc_end_change : FnScope N_end_change P_end_change (defScope s_end_change) := ⟨rfl, rfl, rfl, by decide +kernel, rfl, by decide +kernel, by decide +kernel⟩
abbrev N_lead_with_root : List Str := ["walk", "place", "b", "c", "shift"]
abbrev P_lead_with_root : List Str := ["walk", "place"]
theorem sc_lead_with_root : FnScope N_lead_with_root P_lead_with_root (defScope s_lead_with_root) := ⟨rfl, rfl, rfl, by decide +kernel, rfl, by decide +kernel, by decide +kernel⟩
abbrev N_is_small : List Str := ["numbers", "a", "b", "c", "d"]
abbrev P_is_small : List Str := ["numbers"]
theorem sc_is_small : FnScope N_is_small P_is_small (defScope s_is_small) := ⟨rfl, rfl, rfl, by decide +kernel, rfl, by decide +kernel, by decide +kernel⟩
abbrev N_is_between : List Str := ["numbers", "a", "b", "c", "d", "middle"]
abbrev P_is_between : List Str := ["numbers"]
theorem sc_is_between : FnScope N_is_between P_is_between (defScope s_is_between) := ⟨rfl, rfl, rfl, by decide +kernel, rfl, by decide +kernel, by decide +kernel⟩
abbrev N_is_not_past : List Str := ["numbers", "shift", "a", "b"]
abbrev P_is_not_past : List Str := ["numbers", "shift"]
theorem sc_is_not_past : FnScope N_is_not_past P_is_not_past (defScope s_is_not_past) := ⟨rfl, rfl, rfl, by decide +kernel, rfl, by decide +kernel, by decide +kernel⟩
abbrev N_best_shift : List Str := ["numbers", "low", "high", "middle"]
abbrev P_best_shift : List Str := ["numbers"]
theorem sc_best_shift : FnScope N_best_shift P_best_shift (defScope s_best_shift) := ⟨rfl, rfl, rfl, by decide +kernel, rfl, by decide +kernel, by decide +kernel⟩
abbrev N_lead_without_root : List Str := ["walk", "shift", "a", "b", "c", "d"]
abbrev P_lead_without_root : List Str := ["walk"]
theorem sc_lead_without_root : FnScope N_lead_without_root P_lead_without_root (defScope s_lead_without_root) := ⟨rfl, rfl, rfl, by decide +kernel, rfl, by decide +kernel, by decide +kernel⟩
abbrev N_led_below : List Str := ["numbers", "walk", "places"]
abbrev P_led_below : List Str := ["numbers"]
theorem sc_led_below : FnScope N_led_below P_led_below (defScope s_led_below) := ⟨rfl, rfl, rfl, by decide +kernel, rfl, by decide +kernel, by decide +kernel⟩
abbrev N_least_of : List Str := ["numbers", "discriminant"]
abbrev P_least_of : List Str := ["numbers"]
theorem sc_least_of : FnScope N_least_of P_least_of (defScope s_least_of) := ⟨rfl, rfl, rfl, by decide +kernel, rfl, by decide +kernel, by decide +kernel⟩
abbrev N_least_row : List Str := ["row"]
abbrev P_least_row : List Str := ["row"]
theorem sc_least_row : FnScope N_least_row P_least_row (defScope s_least_row) := ⟨rfl, rfl, rfl, by decide +kernel, rfl, by decide +kernel, by decide +kernel⟩
abbrev N_least_made : List Str := ["numbers"]
abbrev P_least_made : List Str := ["numbers"]
theorem sc_least_made : FnScope N_least_made P_least_made (defScope s_least_made) := ⟨rfl, rfl, rfl, by decide +kernel, rfl, by decide +kernel, by decide +kernel⟩
abbrev N_require_short : List Str := ["numbers", "entry"]
abbrev P_require_short : List Str := ["numbers"]
theorem sc_require_short : FnScope N_require_short P_require_short (defScope s_require_short) := ⟨rfl, rfl, rfl, by decide +kernel, rfl, by decide +kernel, by decide +kernel⟩
abbrev N_is_least : List Str := ["form"]
abbrev P_is_least : List Str := ["form"]
theorem sc_is_least : FnScope N_is_least P_is_least (defScope s_is_least) := ⟨rfl, rfl, rfl, by decide +kernel, rfl, by decide +kernel, by decide +kernel⟩
abbrev N_least_form : List Str := ["form"]
abbrev P_least_form : List Str := ["form"]
theorem sc_least_form : FnScope N_least_form P_least_form (defScope s_least_form) := ⟨rfl, rfl, rfl, by decide +kernel, rfl, by decide +kernel, by decide +kernel⟩
abbrev N_is_small_prime : List Str := ["value"]
abbrev P_is_small_prime : List Str := ["value"]
theorem sc_is_small_prime : FnScope N_is_small_prime P_is_small_prime (defScope s_is_small_prime) := ⟨rfl, rfl, rfl, by decide +kernel, rfl, by decide +kernel, by decide +kernel⟩
abbrev N_require_prime : List Str := ["value"]
abbrev P_require_prime : List Str := ["value"]
theorem sc_require_prime : FnScope N_require_prime P_require_prime (defScope s_require_prime) := ⟨rfl, rfl, rfl, by decide +kernel, rfl, by decide +kernel, by decide +kernel⟩
abbrev N_places_at : List Str := ["prime", "x"]
abbrev P_places_at : List Str := ["prime"]
theorem sc_places_at : FnScope N_places_at P_places_at (defScope s_places_at) := ⟨rfl, rfl, rfl, by decide +kernel, rfl, by decide +kernel, by decide +kernel⟩
abbrev N_is_place : List Str := ["prime", "value", "entry"]
abbrev P_is_place : List Str := ["prime", "value"]
theorem sc_is_place : FnScope N_is_place P_is_place (defScope s_is_place) := ⟨rfl, rfl, rfl, by decide +kernel, rfl, by decide +kernel, by decide +kernel⟩
abbrev N_slope_at : List Str := ["numbers", "x"]
abbrev P_slope_at : List Str := ["numbers", "x"]
theorem sc_slope_at : FnScope N_slope_at P_slope_at (defScope s_slope_at) := ⟨rfl, rfl, rfl, by decide +kernel, rfl, by decide +kernel, by decide +kernel⟩
abbrev N_is_heavy : List Str := ["numbers", "prime", "place"]
abbrev P_is_heavy : List Str := ["numbers", "prime", "place"]
theorem sc_is_heavy : FnScope N_is_heavy P_is_heavy (defScope s_is_heavy) := ⟨rfl, rfl, rfl, by decide +kernel, rfl, by decide +kernel, by decide +kernel⟩
abbrev N_numbers_above : List Str := ["numbers", "prime", "place", "a", "b", "c", "d", "x"]
abbrev P_numbers_above : List Str := ["numbers", "prime", "place"]
theorem sc_numbers_above : FnScope N_numbers_above P_numbers_above (defScope s_numbers_above) := ⟨rfl, rfl, rfl, by decide +kernel, rfl, by decide +kernel, by decide +kernel⟩
abbrev N_is_divided : List Str := ["numbers", "prime", "number"]
abbrev P_is_divided : List Str := ["numbers", "prime"]
theorem sc_is_divided : FnScope N_is_divided P_is_divided (defScope s_is_divided) := ⟨rfl, rfl, rfl, by decide +kernel, rfl, by decide +kernel, by decide +kernel⟩
abbrev N_heavy_places : List Str := ["form", "prime", "place"]
abbrev P_heavy_places : List Str := ["form", "prime"]
theorem sc_heavy_places : FnScope N_heavy_places P_heavy_places (defScope s_heavy_places) := ⟨rfl, rfl, rfl, by decide +kernel, rfl, by decide +kernel, by decide +kernel⟩
abbrev N_above : List Str := ["form", "prime", "place"]
abbrev P_above : List Str := ["form", "prime", "place"]
theorem sc_above : FnScope N_above P_above (defScope s_above) := ⟨rfl, rfl, rfl, by decide +kernel, rfl, by decide +kernel, by decide +kernel⟩
abbrev N_require_stepped : List Str := ["form", "size"]
abbrev P_require_stepped : List Str := ["form"]
theorem sc_require_stepped : FnScope N_require_stepped P_require_stepped (defScope s_require_stepped) := ⟨rfl, rfl, rfl, by decide +kernel, rfl, by decide +kernel, by decide +kernel⟩
abbrev N_double_primes : List Str := ["number", "found", "part", "many"]
abbrev P_double_primes : List Str := ["number"]
theorem sc_double_primes : FnScope N_double_primes P_double_primes (defScope s_double_primes) := ⟨rfl, rfl, rfl, by decide +kernel, rfl, by decide +kernel, by decide +kernel⟩
abbrev N_bar_at : List Str := ["numbers", "prime", "place"]
abbrev P_bar_at : List Str := ["numbers", "prime"]
theorem sc_bar_at : FnScope N_bar_at P_bar_at (defScope s_bar_at) := ⟨rfl, rfl, rfl, by decide +kernel, rfl, by decide +kernel, by decide +kernel⟩
abbrev N_first_bar : List Str := ["numbers", "primes", "one", "prime"]
abbrev P_first_bar : List Str := ["numbers", "primes"]
theorem sc_first_bar : FnScope N_first_bar P_first_bar (defScope s_first_bar) := ⟨rfl, rfl, rfl, by decide +kernel, rfl, by decide +kernel, by decide +kernel⟩
abbrev N_bar : List Str := ["form"]
abbrev P_bar : List Str := ["form"]
theorem sc_bar : FnScope N_bar P_bar (defScope s_bar) := ⟨rfl, rfl, rfl, by decide +kernel, rfl, by decide +kernel, by decide +kernel⟩
abbrev N_is_greatest : List Str := ["form"]
abbrev P_is_greatest : List Str := ["form"]
theorem sc_is_greatest : FnScope N_is_greatest P_is_greatest (defScope s_is_greatest) := ⟨rfl, rfl, rfl, by decide +kernel, rfl, by decide +kernel, by decide +kernel⟩
abbrev N_step_of : List Str := ["told"]
abbrev P_step_of : List Str := ["told"]
theorem sc_step_of : FnScope N_step_of P_step_of (defScope s_step_of) := ⟨rfl, rfl, rfl, by decide +kernel, rfl, by decide +kernel, by decide +kernel⟩
abbrev N_numbers_behind : List Str := ["numbers", "step", "number"]
abbrev P_numbers_behind : List Str := ["numbers", "step"]
theorem sc_numbers_behind : FnScope N_numbers_behind P_numbers_behind (defScope s_numbers_behind) := ⟨rfl, rfl, rfl, by decide +kernel, rfl, by decide +kernel, by decide +kernel⟩
abbrev N_way_up : List Str := ["form", "numbers", "primes", "steps", "told"]
abbrev P_way_up : List Str := ["form"]
theorem sc_way_up : FnScope N_way_up P_way_up (defScope s_way_up) := ⟨rfl, rfl, rfl, by decide +kernel, rfl, by decide +kernel, by decide +kernel⟩
abbrev N_greatest : List Str := ["form", "steps", "numbers", "index", "step"]
abbrev P_greatest : List Str := ["form"]
theorem sc_greatest : FnScope N_greatest P_greatest (defScope s_greatest) := ⟨rfl, rfl, rfl, by decide +kernel, rfl, by decide +kernel, by decide +kernel⟩
abbrev N_parts_of : List Str := ["number", "found", "prime", "times"]
abbrev P_parts_of : List Str := ["number"]
theorem sc_parts_of : FnScope N_parts_of P_parts_of (defScope s_parts_of) := ⟨rfl, rfl, rfl, by decide +kernel, rfl, by decide +kernel, by decide +kernel⟩
abbrev N_third_root : List Str := ["number"]
abbrev P_third_root : List Str := ["number"]
theorem sc_third_root : FnScope N_third_root P_third_root (defScope s_third_root) := ⟨rfl, rfl, rfl, by decide +kernel, rfl, by decide +kernel, by decide +kernel⟩
abbrev N_third_form : List Str := ["number", "first", "last"]
abbrev P_third_form : List Str := ["number"]
theorem sc_third_form : FnScope N_third_form P_third_form (defScope s_third_form) := ⟨rfl, rfl, rfl, by decide +kernel, rfl, by decide +kernel, by decide +kernel⟩
abbrev N_heavy_place_of : List Str := ["first", "last"]
abbrev P_heavy_place_of : List Str := ["first", "last"]
theorem sc_heavy_place_of : FnScope N_heavy_place_of P_heavy_place_of (defScope s_heavy_place_of) := ⟨rfl, rfl, rfl, by decide +kernel, rfl, by decide +kernel, by decide +kernel⟩
abbrev N_third_greatest : List Str := ["number", "form", "place"]
abbrev P_third_greatest : List Str := ["number"]
theorem sc_third_greatest : FnScope N_third_greatest P_third_greatest (defScope s_third_greatest) := ⟨rfl, rfl, rfl, by decide +kernel, rfl, by decide +kernel, by decide +kernel⟩
abbrev N_law_cask : List Str := ["_law_script", "_law_spot", "_law_cell", "_law_great", "_law_mixed"]
abbrev P_law_cask : List Str := ["_law_script", "_law_spot"]
theorem sc_law_cask : FnScope N_law_cask P_law_cask (defScope s_law_cask) := ⟨rfl, rfl, rfl, by decide +kernel, rfl, by decide +kernel, by decide +kernel⟩
abbrev N_law_tap : List Str := ["_law_cask_here", "_law_many", "_law_found", "_law_one_here", "_law_two"]
abbrev P_law_tap : List Str := ["_law_cask_here", "_law_many"]
theorem sc_law_tap : FnScope N_law_tap P_law_tap (defScope s_law_tap) := ⟨rfl, rfl, rfl, by decide +kernel, rfl, by decide +kernel, by decide +kernel⟩
abbrev N_law_one : List Str := ["_law_cask_here", "_law_items"]
abbrev P_law_one : List Str := ["_law_cask_here", "_law_items"]
theorem sc_law_one : FnScope N_law_one P_law_one (defScope s_law_one) := ⟨rfl, rfl, rfl, by decide +kernel, rfl, by decide +kernel, by decide +kernel⟩
abbrev N_law_is_right : List Str := ["_law_number", "_law_form", "_law_a", "_law_b", "_law_told", "_law_least", "_law_index", "_law_is_split", "_law_places"]
abbrev P_law_is_right : List Str := ["_law_number"]
theorem sc_law_is_right : FnScope N_law_is_right P_law_is_right (defScope s_law_is_right) := ⟨rfl, rfl, rfl, by decide +kernel, rfl, by decide +kernel, by decide +kernel⟩
abbrev N_law_right : List Str := ["_law_cask_here", "_law_number", "_law_great"]
abbrev P_law_right : List Str := ["_law_cask_here"]
theorem sc_law_right : FnScope N_law_right P_law_right (defScope s_law_right) := ⟨rfl, rfl, rfl, by decide +kernel, rfl, by decide +kernel, by decide +kernel⟩
abbrev N_KeptForm_init : List Str := ["self", "numbers"]
abbrev P_KeptForm_init : List Str := ["self", "numbers"]
theorem sc_KeptForm_init : FnScope N_KeptForm_init P_KeptForm_init (defScope s_KeptForm_init) := ⟨rfl, rfl, rfl, by decide +kernel, rfl, by decide +kernel, by decide +kernel⟩
abbrev N_Form_init : List Str := ["self", "coefficients"]
abbrev P_Form_init : List Str := ["self", "coefficients"]
theorem sc_Form_init : FnScope N_Form_init P_Form_init (defScope s_Form_init) := ⟨rfl, rfl, rfl, by decide +kernel, rfl, by decide +kernel, by decide +kernel⟩
abbrev N_Form_discriminant : List Str := ["self"]
abbrev P_Form_discriminant : List Str := ["self"]
theorem sc_Form_discriminant : FnScope N_Form_discriminant P_Form_discriminant (defScope s_Form_discriminant) := ⟨rfl, rfl, rfl, by decide +kernel, rfl, by decide +kernel, by decide +kernel⟩
abbrev N_Form_getitem : List Str := ["self", "place"]
abbrev P_Form_getitem : List Str := ["self", "place"]
theorem sc_Form_getitem : FnScope N_Form_getitem P_Form_getitem (defScope s_Form_getitem) := ⟨rfl, rfl, rfl, by decide +kernel, rfl, by decide +kernel, by decide +kernel⟩
abbrev N_Form_eq : List Str := ["self", "other"]
abbrev P_Form_eq : List Str := ["self", "other"]
theorem sc_Form_eq : FnScope N_Form_eq P_Form_eq (defScope s_Form_eq) := ⟨rfl, rfl, rfl, by decide +kernel, rfl, by decide +kernel, by decide +kernel⟩
abbrev N_Form_str : List Str := ["self"]
abbrev P_Form_str : List Str := ["self"]
theorem sc_Form_str : FnScope N_Form_str P_Form_str (defScope s_Form_str) := ⟨rfl, rfl, rfl, by decide +kernel, rfl, by decide +kernel, by decide +kernel⟩
abbrev N_Walk_init : List Str := ["self", "numbers"]
abbrev P_Walk_init : List Str := ["self", "numbers"]
theorem sc_Walk_init : FnScope N_Walk_init P_Walk_init (defScope s_Walk_init) := ⟨rfl, rfl, rfl, by decide +kernel, rfl, by decide +kernel, by decide +kernel⟩
abbrev N_Walk_step : List Str := ["self", "change"]
abbrev P_Walk_step : List Str := ["self", "change"]
theorem sc_Walk_step : FnScope N_Walk_step P_Walk_step (defScope s_Walk_step) := ⟨rfl, rfl, rfl, by decide +kernel, rfl, by decide +kernel, by decide +kernel⟩
abbrev N_law : List Str := ["_law_script", "_law_spot", "_law_cask_here", "_law_told", "_law_form", "_law_index"]
abbrev P_law : List Str := ["_law_script"]
theorem sc_law : FnScope N_law P_law (defScope s_law) := ⟨rfl, rfl, rfl, by decide +kernel, rfl, by decide +kernel, by decide +kernel⟩
/-! ### what the head says -/
/-- a def of the top as it stands -/
structure Df (T : Tx) (x : Str) (st : Stmt) (ps : List Str) : Prop where
  ex : ∃ f fd, FunX T x x st f fd ∧ T.mg x = some (.ref f) ∧ Binds T.K fd ps []
structure DfG (T : Tx) (x : Str) (st : Stmt) (ps : List Str) : Prop where
  ex : ∃ f fd c P, FunC T x x st f fd (fun v => v = .ref c) ∧ T.mg x = some (.ref f) ∧ Binds T.K fd ps [] ∧ GxR.TabB T.base T.mg c P ∧ P ∈ T.tabs
structure Al (T : Tx) : Prop where
  b_isinstance : T.mg "isinstance" = none
  b_bool : T.mg "bool" = none
  b_abs : T.mg "abs" = none
  b_all : T.mg "all" = none
  b_any : T.mg "any" = none
  b_range : T.mg "range" = none
  b_tuple : T.mg "tuple" = none
  b_len : T.mg "len" = none
  b_max : T.mg "max" = none
  b_min : T.mg "min" = none
  b_sorted : T.mg "sorted" = none
  b_zip : T.mg "zip" = none
  b_next : T.mg "next" = none
  b_str : T.mg "str" = none
  b_int : T.mg "int" = none
  b_sum : T.mg "sum" = none
  b_gcd : T.mg "gcd" = some (.builtin "math.gcd")
  c_SIXTY_DIGITS : Cst T "SIXTY_DIGITS" (.int (10 ^ 60))
  c_IDLE : Cst T "IDLE" (dM 1 0 0 1)
  c_SIZE_forms : Cst T "SIZE_forms" (.int 4)
  c_END_lines : Cst T "END_lines" (dP 1 0)
  c_EXCHANGE : Cst T "EXCHANGE" (dM 0 1 (-1) 0)
  c_OPPOSITE_below : Cst T "OPPOSITE_below" (dM (-1) 0 0 (-1))
  c_MIRROR : Cst T "MIRROR" (dM 1 0 0 (-1))
  c_MIRROR_BACK : Cst T "MIRROR_BACK" (dM (-1) 0 0 1)
  c_MAX_STEPPED : Cst T "MAX_STEPPED" (.int 100000000)
  c_MOST_PRIME : Cst T "MOST_PRIME" (.int 10000)
  c_END_steps : Cst T "END_steps" (dP 1 0)
  c_PART : Cst T "PART" (.str "part")
  c_ABOVE : Cst T "ABOVE" (.str "above")
  c_CONTENT : Cst T "CONTENT" (.str "content")
  c_PLACE : Cst T "PLACE" (.str "place")
  c_LEAST_THIRD : Cst T "LEAST_THIRD" (.int 2)
  c_MAX_THIRD : Cst T "MAX_THIRD" (.int 1000000000000)
  c_MANY : Cst T "MANY" (.int 3)
  c_NINE : Cst T "NINE" (.int 9)
  d_is_whole : Df T "is_whole" s_is_whole P_is_whole
  d_is_integer : Df T "is_integer" s_is_integer P_is_integer
  d_is_within : Df T "is_within" s_is_within P_is_within
  d_require_within : Df T "require_within" s_require_within P_require_within
  d_common_of : Df T "common_of" s_common_of P_common_of
  d_is_prime_number : Df T "is_prime_number" s_is_prime_number P_is_prime_number
  d_taken_out : Df T "taken_out" s_taken_out P_taken_out
  d_factors_in : Df T "factors_in" s_factors_in P_factors_in
  d_joined_in : Df T "joined_in" s_joined_in P_joined_in
  d_are_integers : Df T "are_integers" s_are_integers P_are_integers
  d_numbers_text : Df T "numbers_text" s_numbers_text P_numbers_text
  d_lowest_place : Df T "lowest_place" s_lowest_place P_lowest_place
  d_places_of_double : Df T "places_of_double" s_places_of_double P_places_of_double
  d_monic_at : Df T "monic_at" s_monic_at P_monic_at
  d_bisected : Df T "bisected" s_bisected P_bisected
  d_monic_roots : Df T "monic_roots" s_monic_roots P_monic_roots
  d_places_of_cubic : Df T "places_of_cubic" s_places_of_cubic P_places_of_cubic
  d_form_at : Df T "form_at" s_form_at P_form_at
  d_form_led : Df T "form_led" s_form_led P_form_led
  d_discriminant_of : Df T "discriminant_of" s_discriminant_of P_discriminant_of
  d_form_told : Df T "form_told" s_form_told P_form_told
  d_made_form : Df T "made_form" s_made_form P_made_form
  d_require_form : Df T "require_form" s_require_form P_require_form
  d_bezout : Df T "bezout" s_bezout P_bezout
  d_end_change : Df T "end_change" s_end_change P_end_change
  d_lead_with_root : Df T "lead_with_root" s_lead_with_root P_lead_with_root
  d_is_small : Df T "is_small" s_is_small P_is_small
  d_is_between : Df T "is_between" s_is_between P_is_between
  d_is_not_past : Df T "is_not_past" s_is_not_past P_is_not_past
  d_best_shift : Df T "best_shift" s_best_shift P_best_shift
  d_lead_without_root : Df T "lead_without_root" s_lead_without_root P_lead_without_root
  d_led_below : Df T "led_below" s_led_below P_led_below
  d_least_of : Df T "least_of" s_least_of P_least_of
  d_least_row : Df T "least_row" s_least_row P_least_row
  d_least_made : Df T "least_made" s_least_made P_least_made
  d_require_short : Df T "require_short" s_require_short P_require_short
  d_is_least : Df T "is_least" s_is_least P_is_least
  d_least_form : Df T "least_form" s_least_form P_least_form
  d_is_small_prime : Df T "is_small_prime" s_is_small_prime P_is_small_prime
  d_require_prime : Df T "require_prime" s_require_prime P_require_prime
  d_places_at : Df T "places_at" s_places_at P_places_at
  d_is_place : Df T "is_place" s_is_place P_is_place
  d_slope_at : Df T "slope_at" s_slope_at P_slope_at
  d_is_heavy : Df T "is_heavy" s_is_heavy P_is_heavy
  d_numbers_above : Df T "numbers_above" s_numbers_above P_numbers_above
  d_is_divided : Df T "is_divided" s_is_divided P_is_divided
  d_heavy_places : Df T "heavy_places" s_heavy_places P_heavy_places
  d_above : Df T "above" s_above P_above
  d_require_stepped : Df T "require_stepped" s_require_stepped P_require_stepped
  d_double_primes : Df T "double_primes" s_double_primes P_double_primes
  d_bar_at : DfG T "bar_at" s_bar_at P_bar_at
  d_first_bar : DfG T "first_bar" s_first_bar P_first_bar
  d_bar : Df T "bar" s_bar P_bar
  d_is_greatest : Df T "is_greatest" s_is_greatest P_is_greatest
  d_step_of : Df T "step_of" s_step_of P_step_of
  d_numbers_behind : Df T "numbers_behind" s_numbers_behind P_numbers_behind
  d_way_up : Df T "way_up" s_way_up P_way_up
  d_greatest : Df T "greatest" s_greatest P_greatest
  d_parts_of : Df T "parts_of" s_parts_of P_parts_of
  d_third_root : Df T "third_root" s_third_root P_third_root
  d_third_form : Df T "third_form" s_third_form P_third_form
  d_heavy_place_of : Df T "heavy_place_of" s_heavy_place_of P_heavy_place_of
  d_third_greatest : Df T "third_greatest" s_third_greatest P_third_greatest
  d_law_cask : Df T "_law_cask" s_law_cask P_law_cask
  d_law_tap : Df T "_law_tap" s_law_tap P_law_tap
  d_law_one : Df T "_law_one" s_law_one P_law_one
  d_law_is_right : Df T "_law_is_right" s_law_is_right P_law_is_right
  d_law_right : Df T "_law_right" s_law_right P_law_right
  cls : ∀ b, ClsOk T b
  sl_own_coefficients : SlotOk T true "own_coefficients"
  sl_own_numbers : SlotOk T false "own_numbers"
  g_Form : T.mg "Form" = some (.ref T.cF)
  g_KeptForm : T.mg "KeptForm" = some (.ref T.cK)
  g_Walk : T.mg "Walk" = some (.ref T.cW)
  kFF : PySem.W.kitOne T.K (.ref T.cF) (.ref T.cF) = some true
  kKK : PySem.W.kitOne T.K (.ref T.cK) (.ref T.cK) = some true
  kTK : PySem.W.kitOne T.K (.type "tuple") (.ref T.cK) = some false
  wk : WOk T
  m_KeptForm_init : ∃ f fd, FunX T "__init__" "KeptForm.__init__" s_KeptForm_init f fd ∧ Mk T.K T.cK f ∧ Binds T.K fd P_KeptForm_init []
  m_Form_init : ∃ f fd, FunX T "__init__" "Form.__init__" s_Form_init f fd ∧ Mk T.K T.cF f ∧ Binds T.K fd P_Form_init []
  m_Walk_init : ∃ f fd, FunX T "__init__" "Walk.__init__" s_Walk_init f fd ∧ Mk T.K T.cW f ∧ Binds T.K fd P_Walk_init []
  m_step : ∃ g fd, FunX T "step" "Walk.step" s_Walk_step g fd ∧ Meth T.K T.cW "step" g ∧ Binds T.K fd P_Walk_step []
  m_disc : ∃ p g fd, PySem.W.findIn T.K (.ref T.cF) "discriminant" = some (some (.ref p)) ∧ PySem.W.specialIn T.K (.ref p) "__get__" = some (some (.builtin "property.__get__")) ∧ PySem.W.takesIn T.K (.ref p) = some true ∧ (∃ rest, PySem.W.recIn T.K p "property" = some (.ref g :: rest)) ∧ FunX T "discriminant" "Form.discriminant" s_Form_discriminant g fd ∧ Binds T.K fd P_Form_discriminant []
  m_item : ∃ g fd, PySem.W.findIn T.K (.ref T.cF) "__getitem__" = some (some (.ref g)) ∧ PySem.W.fnIn T.K g = true ∧ PySem.W.isFn T.K (.ref g) = true ∧ FunX T "__getitem__" "Form.__getitem__" s_Form_getitem g fd ∧ Binds T.K fd P_Form_getitem []
  m_eq : ∃ g fd, PySem.W.findIn T.K (.ref T.cF) "__eq__" = some (some (.ref g)) ∧ PySem.W.isFn T.K (.ref g) = true ∧ FunX T "__eq__" "Form.__eq__" s_Form_eq g fd ∧ Binds T.K fd P_Form_eq []
  m_str : ∃ g fd, PySem.W.findIn T.K (.ref T.cF) "__str__" = some (some (.ref g)) ∧ PySem.W.isFn T.K (.ref g) = true ∧ FunX T "__str__" "Form.__str__" s_Form_str g fd ∧ Binds T.K fd P_Form_str []
  ne : PySem.W.findIn T.K (.ref T.cF) "__ne__" = some (some (.builtin "object.__ne__"))
  mr : PySem.W.mroIn T.K T.cF (.type "object") = some true
theorem Df.pfn {T : Tx} {x : Str} {st : Stmt} {N ps : List Str} {k : Nat} {R : List D → D → Prop} (F : Df T x st ps) (S : FnScope N ps (defScope st)) (len : ∀ ds d, R ds d → ds.length = ps.length)
    (body : ∀ (f : Addr) (cdv : Value) (A : Around) (outer : List Env) (s : Shared) (H : Hp) (E : XK), Fam T k (XB T N x st f cdv A outer s H E) → ∀ ds d, R ds d → JSs T (XB T N x st f cdv A outer s H E) noM (startE N ds) (defBody st) { nx := fun _ => d = .non, rt := fun x _ => x = .d d }) : PFn T x (k + 1) R := by
  obtain ⟨f, fd, F, hm, hb⟩ := F.ex
  exact pfn_mk F S hm hb len (body f)
theorem DfG.pfn {T : Tx} {x : Str} {st : Stmt} {N ps : List Str} {k : Nat} {R : List D → D → Prop} (F : DfG T x st ps) (S : FnScope N ps (defScope st)) (len : ∀ ds d, R ds d → ds.length = ps.length)
    (body : ∀ (f c P : Addr) (A : Around) (outer : List Env) (s : Shared) (H : Hp) (E : XK), GxR.TabB T.base T.mg c P → P ∈ T.tabs → Fam T k (XB T N x st f (.ref c) A outer s H E) → ∀ ds d, R ds d → JSs T (XB T N x st f (.ref c) A outer s H E) noM (startE N ds) (defBody st) { nx := fun _ => d = .non, rt := fun x _ => x = .d d }) : PFn T x (k + 1) R := by
  obtain ⟨f, fd, c, P, F, hm, hb, tb, hP⟩ := F.ex
  exact ⟨f, fd, ps, fn_mkC0 F S len fun cdv A outer s H E hc => by subst hc; exact body f c P A outer s H E tb hP, hm, F.kp, hb⟩
section
variable {T : Tx} {ι : Type} {X : ι → Cx} {ρ : En}
theorem JI.v (j : Nat) {x : Str} {pos : Pos} {i : Int} (hr : ρ[j]? = some (some (.d (.int i))) := by rfl) (h : Sm 200 i := by assumption) (hN : ∀ i, (X i).N[j]? = some x := by intro _; rfl)
    (hv : ∀ i, Vis (X i).env.scope x := by first | exact fun _ => Or.inl rfl | exact fun _ => Or.inr (Or.inl rfl) | exact fun _ => Or.inr (Or.inr rfl))
    (hd : (x == ("__debug__" : Str)) = false := by decide) (hcd : (x == ("__classdict__" : Str)) = false := by decide) : JI T X ρ (.Name x pos) i 200 := ⟨je_var j hr hN hv hd hcd, h⟩
theorem JI.x {e : Expr} {i : Int} (h : JE T X ρ e (.int i)) (s : Sm 9000 i) : JI T X ρ e i 9000 := ⟨h, s⟩
end
theorem nTail {α : Type} (a : α) (l : List α) : (a :: l).tail = l := rfl
theorem nSet0 {α : Type} (a b : α) (l : List α) : (a :: l).set 0 b = b :: l := rfl
theorem nSetS {α : Type} (a b : α) (l : List α) (n : Nat) : (a :: l).set (n + 1) b = a :: l.set n b := rfl
theorem nMap {α β : Type} (f : α → β) (a : α) (l : List α) : (a :: l).map f = f a :: l.map f := rfl
theorem nMap0 {α β : Type} (f : α → β) : ([] : List α).map f = [] := rfl
theorem nLen {α : Type} (a : α) (l : List α) : (a :: l).length = l.length + 1 := rfl
theorem nLen0 {α : Type} : ([] : List α).length = 0 := rfl
theorem nRep {α : Type} (a : α) (n : Nat) : List.replicate (n + 1) a = a :: List.replicate n a := rfl
theorem nRep0 {α : Type} (a : α) : List.replicate 0 a = [] := rfl
theorem nApp {α : Type} (a : α) (l m : List α) : (a :: l) ++ m = a :: (l ++ m) := rfl
theorem nApp0 {α : Type} (m : List α) : [] ++ m = m := rfl
theorem JSs.norm {T : Tx} {ι : Type} {X : ι → Cx} {m : Hid} {ρ ρ2 : En} {sts : List Stmt} {Φ : Pst} (e : ρ = ρ2) (h : JSs T X m ρ2 sts Φ) : JSs T X m ρ sts Φ := e ▸ h
theorem JS.norm {T : Tx} {ι : Type} {X : ι → Cx} {m : Hid} {ρ ρ2 : En} {st : Stmt} {Φ : Pst} (e : ρ = ρ2) (h : JS T X m ρ2 st Φ) : JS T X m ρ st Φ := e ▸ h
theorem Sm.k {i : Int} (h : i.natAbs < 2 ^ 201) : Sm 200 i := h
theorem Sm.lit {i : Int} (h : i.natAbs < 2 ^ 21 := by decide) : Sm 20 i := h
theorem bt_int : bootBuiltins "int" = some (.type "int") := by decide +kernel
theorem bt_bool : bootBuiltins "bool" = some (.type "bool") := by decide +kernel
theorem bt_tuple : bootBuiltins "tuple" = some (.type "tuple") := by decide +kernel
theorem noPass {M : Model} {A : Around} {env : Env} : PassesOwn M A env (fun _ _ => False) := PassesOwn.never
theorem kit_int {K : PySem.W.Frag} : PySem.W.kitOne K (.type "int") (.type "int") = some true := by first | rfl | decide +kernel
theorem kit_ib {K : PySem.W.Frag} : PySem.W.kitOne K (.type "int") (.type "bool") = some false := by first | rfl | decide +kernel
theorem kit_tt {K : PySem.W.Frag} : PySem.W.kitOne K (.type "tuple") (.type "tuple") = some true := by first | rfl | decide +kernel
end Fr
set_option exponentiation.threshold 3000
namespace Fr
open PySem PySem.Spec PyProof.Rows L2 StX
theorem plainS_d (d : D) : plainS (some (.d d)) = true := rfl
theorem plainS_n : plainS none = true := rfl
theorem rbl {b c : Bool} (h : b = c) : Sl.d (.bl b) = Sl.d (.bl c) := by rw [h]
theorem rin {b c : Int} (h : b = c) : Sl.d (.int b) = Sl.d (.int c) := by rw [h]
theorem ok_is_whole {T : Tx} (A : Al T) : PFn T "is_whole" 1 (fun ds d => ∃ i, ds = [.int i] ∧ d = .bl true) := by
  refine A.d_is_whole.pfn (k := 0) sc_is_whole (by rintro _ _ ⟨_, rfl, _⟩; rfl) fun f cdv Ar outer sh Hh E hX ds d h => ?_
  have nd : ∀ i, (XB T N_is_whole "is_whole" s_is_whole f cdv Ar outer sh Hh E i).N.Nodup := fun _ => sc_is_whole.nd
  obtain ⟨i, rfl, rfl⟩ := h
  refine jss_one (js_ret (je_and (je_isiB hX A.b_isinstance A.cls A.b_int bt_int (je_var 0) kit_int) (je_one (je_not (je_isiB hX A.b_isinstance A.cls A.b_bool bt_bool (je_var 0) kit_ib)))) ?_)
  rfl
theorem ok_is_integer {T : Tx} (A : Al T) : PFn T "is_integer" 2 (fun ds d => ∃ i : Int, ds = [.int i] ∧ i.natAbs < 10 ^ 60 ∧ d = .bl true) := by
  refine A.d_is_integer.pfn (k := 1) sc_is_integer (by rintro _ _ ⟨_, rfl, _⟩; rfl) fun f cdv Ar outer sh Hh E hX ds d h => ?_
  have nd : ∀ i, (XB T N_is_integer "is_integer" s_is_integer f cdv Ar outer sh Hh E i).N.Nodup := fun _ => sc_is_integer.nd
  obtain ⟨i, rfl, hi, rfl⟩ := h
  refine jss_one (js_ret (je_and (je_call hX (ok_is_whole A) (ja_cons (je_var 0) ja_nil) ⟨_, rfl, rfl⟩) (je_one (je_lt (je_abs hX A.b_abs (je_var 0)) (je_glob hX A.c_SIXTY_DIGITS)))) (rbl ?_))
  rw [Bool.true_and, decide_eq_true_eq]
  split <;> omega
theorem ok_is_within {T : Tx} (A : Al T) : PFn T "is_within" 2 (fun ds d => ∃ i a b : Int, ds = [.int i, .int a, .int b] ∧ a ≤ i ∧ i ≤ b ∧ d = .bl true) := by
  refine A.d_is_within.pfn (k := 1) sc_is_within (by rintro _ _ ⟨_, _, _, rfl, _⟩; rfl) fun f cdv Ar outer sh Hh E hX ds d h => ?_
  have nd : ∀ i, (XB T N_is_within "is_within" s_is_within f cdv Ar outer sh Hh E i).N.Nodup := fun _ => sc_is_within.nd
  obtain ⟨i, a, b, rfl, h1, h2, rfl⟩ := h
  refine jss_one (js_ret (je_and (je_call hX (ok_is_whole A) (ja_cons (je_var 0) ja_nil) ⟨_, rfl, rfl⟩) (je_one (je_leLe (je_var 1) (je_var 0) (je_var 2)))) (rbl ?_))
  rw [Bool.true_and, decide_eq_true h1, decide_eq_true h2]
  rfl
theorem ok_require_within {T : Tx} (A : Al T) : PFn T "require_within" 3 (fun ds d => ∃ i a b : Int, ds = [.int i, .int a, .int b] ∧ a ≤ i ∧ i ≤ b ∧ d = .non) := by
  refine A.d_require_within.pfn (k := 2) sc_require_within (by rintro _ _ ⟨_, _, _, rfl, _⟩; rfl) fun f cdv Ar outer sh Hh E hX ds d h => ?_
  have nd : ∀ i, (XB T N_require_within "require_within" s_require_within f cdv Ar outer sh Hh E i).N.Nodup := fun _ => sc_require_within.nd
  obtain ⟨i, a, b, rfl, h1, h2, rfl⟩ := h
  exact jss_one (js_if (jt_not (jt_val (je_call hX (ok_is_within A) (ja_cons (je_var 0) (ja_cons (je_var 1) (ja_cons (je_var 2) ja_nil))) ⟨_, _, _, rfl, h1, h2, rfl⟩))) (fun h => nomatch h) (fun h => jss_nil rfl))
theorem ok_common_of {T : Tx} (A : Al T) : PFn T "common_of" 1 (fun ds d => ∃ i j : Int, ds = [.int i, .int j] ∧ d = .int ((Nat.gcd i.natAbs j.natAbs : Nat) : Int)) := by
  refine A.d_common_of.pfn (k := 0) sc_common_of (by rintro _ _ ⟨_, _, rfl, _⟩; rfl) fun f cdv Ar outer sh Hh E hX ds d h => ?_
  have nd : ∀ i, (XB T N_common_of "common_of" s_common_of f cdv Ar outer sh Hh E i).N.Nodup := fun _ => sc_common_of.nd
  obtain ⟨i, j, rfl, rfl⟩ := h
  exact jss_one (js_ret (je_gcd hX A.b_gcd (je_var 0) (je_var 1)) rfl)
theorem ok_is_prime_number {T : Tx} (A : Al T) : PFn T "is_prime_number" 1 (fun ds d => ∃ i : Int, ds = [.int i] ∧ 2 ≤ i ∧ i < 4 ∧ d = .bl true) := by
  refine A.d_is_prime_number.pfn (k := 0) sc_is_prime_number (by rintro _ _ ⟨_, rfl, _⟩; rfl) fun f cdv Ar outer sh Hh E hX ds d h => ?_
  have nd : ∀ i, (XB T N_is_prime_number "is_prime_number" s_is_prime_number f cdv Ar outer sh Hh E i).N.Nodup := fun _ => sc_is_prime_number.nd
  obtain ⟨i, rfl, h1, h2, rfl⟩ := h
  refine jss_stop (js_if (jt_lt (je_var 0) je_int) (fun h => jss_one (js_ret (je_ge (je_var 0) je_int) ?_)) (fun h => ?_))
  · exact rbl (decide_eq_true h1)
  · rw [decide_eq_true h2] at h
    cases h
end Fr
namespace Fr
open PySem PySem.Spec PyProof.Rows L2 StX
/-! ### how often d goes into n -/
structure TkO (n d : Int) (t : Nat) (m : Int) : Prop where
  eq : n = d ^ t * m
  nd : m % d ≠ 0
theorem tkO_lt {n d : Int} {t j : Nat} {m x : Int} (h1 : n = d ^ t * m) (h2 : n = d ^ j * x) (hd : 2 ≤ d) (h3 : m % d ≠ 0) : j ≤ t := by
  rcases Nat.lt_or_ge t j with h | h
  · exfalso
    have e : d ^ j = d ^ t * (d * d ^ (j - t - 1)) := by
      rw [← Int.pow_succ', ← Int.pow_add]
      congr 1
      omega
    have hp : d ^ t ≠ 0 := Int.pow_ne_zero (by omega)
    have e2 : d ^ t * m = d ^ t * (d * (d ^ (j - t - 1) * x)) := by rw [← h1, h2, e, Int.mul_assoc, Int.mul_assoc]
    have e3 := Int.eq_of_mul_eq_mul_left hp e2
    exact h3 (by rw [e3]; exact Int.mul_emod_right _ _)
  · exact h
theorem TkO.uniq {n d : Int} {t j : Nat} {m x : Int} (h : TkO n d t m) (k : TkO n d j x) (hd : 2 ≤ d) : j = t ∧ x = m := by
  have e : j = t := Nat.le_antisymm (tkO_lt h.eq k.eq hd h.nd) (tkO_lt k.eq h.eq hd k.nd)
  subst e
  refine ⟨rfl, ?_⟩
  have hp : d ^ j ≠ 0 := Int.pow_ne_zero (by omega)
  exact Int.eq_of_mul_eq_mul_left hp (k.eq.symm.trans h.eq)
theorem ok_taken_out {T : Tx} (A : Al T) : PFn T "taken_out" 1 (fun ds r => ∃ n d : Int, ds = [.int n, .int d] ∧ ∃ (t : Nat) (m : Int), 1 ≤ n ∧ 2 ≤ d ∧ d < 1073741824 ∧ TkO n d t m ∧ r = .tup [.int t, .int m]) := by
  refine A.d_taken_out.pfn (k := 0) sc_taken_out (by rintro _ _ ⟨_, _, rfl, _⟩; rfl) fun f cdv Ar outer sh Hh E hX ds d h => ?_
  have nd : ∀ i, (XB T N_taken_out "taken_out" s_taken_out f cdv Ar outer sh Hh E i).N.Nodup := fun _ => sc_taken_out.nd
  obtain ⟨n, dd, rfl, t, m, hn, hd1, hd2, ht, rfl⟩ := h
  refine jss_next (js_set 2 je_int rfl nd) ?_
  refine jss_cons (Ψ := fun ρ' => ρ' = [some (.d (.int m)), some (.d (.int dd)), some (.d (.int t))]) (js_while (fun _ => noPass) (fun z ρ' => ∃ (j : Nat) (x : Int), ρ' = [some (.d (.int x)), some (.d (.int dd)), some (.d (.int j))] ∧ n = dd ^ j * x ∧ 1 ≤ x ∧ z = x.toNat) n.toNat ⟨0, n, rfl, by simp, hn, rfl⟩ ?_) ?_
  · rintro z ρ' ⟨j, x, rfl, hx, hx1, rfl⟩
    have hdp : 0 < dd := by omega
    refine ⟨_, (jt_eqI (je_mod (je_var 0) (je_var 1) (by first | decide | assumption | omega)) je_int), fun h => ?_, fun h => ?_⟩
    · have h0 : x % dd = 0 := of_decide_eq_true h
      have hq := Int.mul_ediv_cancel' (Int.dvd_of_emod_eq_zero h0)
      have hq1 : 1 ≤ x / dd := by
        rcases Int.lt_or_le (x / dd) 1 with q | q
        · have := Int.mul_le_mul_of_nonneg_left (show x / dd ≤ 0 by omega) (show 0 ≤ dd by omega)
          omega
        · exact q
      have hlt : x / dd < x := by
        have := Int.mul_le_mul_of_nonneg_right hd1 (show 0 ≤ x / dd by omega)
        omega
      refine jss_next (js_augC (C := CDiv) 0 (fun _ => iop_fdiv) nd rfl (je_var 1) ⟨hdp, hd2⟩ rfl) ?_
      refine jss_one (js_augI 2 (fun _ => ip_add) nd rfl je_int ⟨(x / dd).toNat, by omega, j + 1, x / dd, ?_, ?_, hq1, rfl⟩)
      · show [_, _, some (Sl.d (.int ((j : Int) + 1)))] = _
        simp
      · rw [hx, Int.pow_succ, Int.mul_assoc, hq]
    · have h0 : x % dd ≠ 0 := of_decide_eq_false h
      obtain ⟨rfl, rfl⟩ := ht.uniq ⟨hx, h0⟩ hd1
      rfl
  · rintro ρ' rfl
    exact jss_one (js_ret (je_tup (ja_cons (je_var 2) (ja_cons (je_var 0) ja_nil))) rfl)
end Fr
namespace Fr
open PySem PySem.Spec PyProof.Rows L2 StX
/-! ### the factors, as the text finds them -/
theorem tk_ex (d : Int) (hd : 2 ≤ d) : ∀ (k : Nat) (n : Int), 1 ≤ n → n.toNat ≤ k → ∃ p : Nat × Int, TkO n d p.1 p.2
  | 0, n, h, hk => by omega
  | k + 1, n, h, hk => by
    by_cases h0 : n % d = 0
    · have hq := Int.mul_ediv_cancel' (Int.dvd_of_emod_eq_zero h0)
      have hq1 : 1 ≤ n / d := by
        rcases Int.lt_or_le (n / d) 1 with q | q
        · have := Int.mul_le_mul_of_nonneg_left (show n / d ≤ 0 by omega) (show 0 ≤ d by omega)
          omega
        · exact q
      have hlt : n / d < n := by
        have := Int.mul_le_mul_of_nonneg_right hd (show 0 ≤ n / d by omega)
        omega
      obtain ⟨⟨t, m⟩, h1, h2⟩ := tk_ex d hd k (n / d) hq1 (by omega)
      have h1 : n / d = d ^ t * m := h1
      refine ⟨(t + 1, m), ?_, h2⟩
      show n = d ^ (t + 1) * m
      rw [Int.pow_succ', Int.mul_assoc, ← h1, hq]
    · exact ⟨(0, n), by simp, h0⟩
open Classical in
noncomputable def tk (n d : Int) : Nat × Int := if h : ∃ p : Nat × Int, TkO n d p.1 p.2 then h.choose else (0, n)
theorem tk_spec {n d : Int} (hn : 1 ≤ n) (hd : 2 ≤ d) : TkO n d (tk n d).1 (tk n d).2 := by
  have h := tk_ex d hd n.toNat n hn (Nat.le_refl _)
  unfold tk
  rw [dif_pos h]
  exact h.choose_spec
theorem tk_pos {n d : Int} (hn : 1 ≤ n) (hd : 2 ≤ d) : 1 ≤ (tk n d).2 ∧ (tk n d).2 ≤ n := by
  have h := (tk_spec hn hd).eq
  generalize (tk n d).1 = t at h
  generalize (tk n d).2 = m at h
  have hp : 1 ≤ d ^ t := by
    have := Int.pow_pos (show 0 < d by omega) (m := t)
    omega
  have hm : 1 ≤ m := by
    rcases Int.lt_or_le m 1 with q | q
    · have := Int.mul_le_mul_of_nonneg_left (show m ≤ 0 by omega) (show 0 ≤ d ^ t by omega)
      omega
    · exact q
  refine ⟨hm, ?_⟩
  have := Int.mul_le_mul_of_nonneg_right hp (show 0 ≤ m by omega)
  omega
def finL (acc : List (Int × Int)) (left : Int) : List (Int × Int) := if 1 < left then acc ++ [(left, 1)] else acc
noncomputable def stepA (acc : List (Int × Int)) (left d : Int) : List (Int × Int) := if 0 < ((tk left d).1 : Int) then acc ++ [(d, ((tk left d).1 : Int))] else acc
noncomputable def facM : Nat → Int → Int → Int → List (Int × Int) → List (Int × Int)
  | 0, left, _, _, acc => finL acc left
  | f + 1, left, d, s, acc => if d * d ≤ left then (if left % d = 0 then facM f (tk left d).2 (d + s) (6 - s) (acc ++ [(d, ((tk left d).1 : Int))]) else facM f left (d + s) (6 - s) acc) else finL acc left
noncomputable def facL (n : Int) : List (Int × Int) := facM 999996 (tk (tk n 2).2 3).2 5 2 (stepA (stepA [] n 2) (tk n 2).2 3)
theorem ok_factors_in {T : Tx} (A : Al T) : PFn T "factors_in" 2 (fun ds r => ∃ n : Int, ds = [.int n] ∧ 1 ≤ n ∧ n ≤ 1000000000000 ∧ r = .lst ((facL n).map prD)) := by
  refine A.d_factors_in.pfn (k := 1) sc_factors_in (by rintro _ _ ⟨_, rfl, _⟩; rfl) fun f cdv Ar outer sh Hh E hX ds d h => ?_
  have nd : ∀ i, (XB T N_factors_in "factors_in" s_factors_in f cdv Ar outer sh Hh E i).N.Nodup := fun _ => sc_factors_in.nd
  obtain ⟨n, rfl, hn1, hn2, rfl⟩ := h
  refine jss_openPar 1 2 hX nd (je_var 0) fun L => ?_
  -- for divisor in (2, 3)
  have p2 := tk_pos hn1 (show (2 : Int) ≤ 2 by decide)
  have p3 := tk_pos p2.1 (show (2 : Int) ≤ 3 by decide)
  let I0 : Nat → En → Prop := fun z ρ' => ∃ acc l x y, ρ' = [some (.d (.int n)), some (.cl L (acc.map prD)), some (.d (.int l)), x, y, none] ∧ plainS x = true ∧ plainS y = true ∧ acc.length ≤ z ∧ z ≤ 2 ∧
    ((z = 0 ∧ acc = [] ∧ l = n) ∨ (z = 1 ∧ acc = stepA [] n 2 ∧ l = (tk n 2).2) ∨ (z = 2 ∧ acc = stepA (stepA [] n 2) (tk n 2).2 3 ∧ l = (tk (tk n 2).2 3).2))
  have hstep : ∀ (acc : List (Int × Int)) (l d : Int), (stepA acc l d).length ≤ acc.length + 1 := fun acc l d => by
    unfold stepA
    split
    · rw [List.length_append]; exact Nat.le_refl _
    · omega
  refine jss_cons (Ψ := I0 2) (js_forW hX (fun _ => noPass) (jit_tup hX (je_tup (ja_cons je_int (ja_cons je_int ja_nil)))) I0 ⟨[], n, none, none, rfl, rfl, rfl, Nat.le_refl _, by decide, .inl ⟨rfl, rfl, rfl⟩⟩ ?_ fun ρ' h => h) ?_
  · rintro z x ρ' hz ⟨acc, l, x0, y0, rfl, px, py, hl, _, hI⟩
    have key : ∃ d : Int, x = .int d ∧ 2 ≤ d ∧ d < 1073741824 ∧ 1 ≤ l ∧ l ≤ 1000000000000 ∧ z ≤ 1 ∧
        ∀ x y, plainS x = true → plainS y = true → I0 (z + 1) [some (.d (.int n)), some (.cl L ((stepA acc l d).map prD)), some (.d (.int (tk l d).2)), x, y, none] := by
      have hz2 : z = 0 ∨ z = 1 := by
        have := (List.getElem?_eq_some_iff.mp hz).1
        simp at this
        omega
      rcases hz2 with rfl | rfl
      · cases hz
        obtain ⟨rfl, rfl⟩ : acc = [] ∧ l = n := by
          rcases hI with ⟨_, q⟩ | ⟨q, _⟩ | ⟨q, _⟩
          · exact q
          · omega
          · omega
        exact ⟨2, rfl, by decide, by decide, hn1, hn2, by decide, fun x y h1 h2 => ⟨_, _, x, y, rfl, h1, h2, hstep _ _ _, by decide, .inr (.inl ⟨rfl, rfl, rfl⟩)⟩⟩
      · cases hz
        obtain ⟨rfl, rfl⟩ : acc = stepA [] n 2 ∧ l = (tk n 2).2 := by
          rcases hI with ⟨q, _⟩ | ⟨_, q⟩ | ⟨q, _⟩
          · omega
          · exact q
          · omega
        exact ⟨3, rfl, by decide, by decide, p2.1, by omega, by decide, fun x y h1 h2 => ⟨_, _, x, y, rfl, h1, h2, Nat.le_trans (hstep _ _ _) (Nat.succ_le_succ hl), by decide, .inr (.inr ⟨rfl, rfl, rfl⟩)⟩⟩
    obtain ⟨d, rfl, hd1, hd2, hl1, hl2, hz1, fin⟩ := key
    refine jg_name 3 nd ?_
    refine jss_next (js_asg (je_call hX (ok_taken_out A) (ja_cons (je_var 2) (ja_cons (je_var 3) ja_nil)) ⟨_, _, rfl, _, _, hl1, hd1, hd2, tk_spec hl1 hd1, rfl⟩) (jg_tup hX (jgs_next (jg_name 4 nd rfl) (jgs_next (jg_name 2 nd rfl) (jgs_nil rfl))))) ?_
    refine jss_one (js_if (jt_gt (je_var 4) je_int) (fun h => ?_) (fun h => jss_nil ?_))
    · refine jss_one (js_append 1 hX (je_tup (ja_cons (je_var 3) (ja_cons (je_var 4) ja_nil))) ?_ (.inr rfl) rfl ?_ ?_)
      · rw [List.length_map]; omega
      · show plainE [_, none, _, _, _, _] = true
        simp [plainE, plainS_d, plainS_n, py]
      · have e : stepA acc l d = acc ++ [(d, ((tk l d).1 : Int))] := if_pos (of_decide_eq_true h)
        have := fin (some (.d (.int d))) (some (.d (.int (tk l d).1))) rfl rfl
        rw [e, List.map_append] at this
        exact this
    · have e : stepA acc l d = acc := if_neg (of_decide_eq_false h)
      have := fin (some (.d (.int d))) (some (.d (.int (tk l d).1))) rfl rfl
      rw [e] at this
      exact this
  · rintro ρ' ⟨acc, l, x0, y0, rfl, px, py, hl, _, hI⟩
    obtain ⟨rfl, rfl⟩ : acc = stepA (stepA [] n 2) (tk n 2).2 3 ∧ l = (tk (tk n 2).2 3).2 := by
      rcases hI with ⟨q, _⟩ | ⟨q, _⟩ | ⟨_, q⟩
      · omega
      · omega
      · exact q
    refine jss_next (js_asg (je_tup (ja_cons je_int (ja_cons je_int ja_nil))) (jg_tup hX (jgs_next (jg_name 3 nd rfl) (jgs_next (jg_name 5 nd rfl) (jgs_nil rfl))))) ?_
    generalize hacc : stepA (stepA [] n 2) (tk n 2).2 3 = acc at *
    generalize hl0 : (tk (tk n 2).2 3).2 = l at *
    -- while divisor * divisor <= left
    refine jss_cons (Ψ := fun ρ' => ∃ acc l y x s, ρ' = [some (.d (.int n)), some (.cl L (acc.map prD)), some (.d (.int l)), x, y, s] ∧ plainS x = true ∧ plainS y = true ∧ plainS s = true ∧ acc.length ≤ 999998 ∧ finL acc l = facL n) (js_while (fun _ => noPass) (fun z ρ' => ∃ acc l d s y, ρ' = [some (.d (.int n)), some (.cl L (acc.map prD)), some (.d (.int l)), some (.d (.int d)), y, some (.d (.int s))] ∧ plainS y = true ∧ 1 ≤ l ∧ l ≤ 1000000000000 ∧ 2 ≤ d ∧ d + z ≥ 1000001 ∧ d ≤ 10000000 ∧ (s = 2 ∨ s = 4) ∧ acc.length + z ≤ 999998 ∧ facM z l d s acc = facL n) 999996 ⟨acc, l, 5, 2, y0, rfl, py, p3.1, by omega, by decide, by decide, by decide, .inl rfl, by omega, by rw [← hacc, ← hl0]; rfl⟩ ?_) ?_
    · rintro z ρ' ⟨acc, l, d, s, y, rfl, py, hl1, hl2, hd1, hd2, hd3, hs, ha, hf⟩
      have sl : Sm 200 l := Sm.k (by omega)
      have sd : Sm 200 d := Sm.k (by omega)
      refine ⟨_, (jt_le (je_mul (JI.v 3) (JI.v 3)) (je_var 2)), fun h => ?_, fun h => ?_⟩
      · have h : d * d ≤ l := of_decide_eq_true h
        have hdm : d ≤ 1000000 := by
          rcases Int.lt_or_le 1000000 d with q | q
          · have := Int.mul_le_mul (show (1000001 : Int) ≤ d by omega) (show (1000001 : Int) ≤ d by omega) (by decide) (by omega)
            omega
          · exact q
        match z, hd2, ha, hf with
        | 0, hd2, ha, hf => omega
        | z + 1, hd2, ha, hf =>
        have hf : facM (z + 1) l d s acc = facL n := hf
        rw [facM, if_pos h] at hf
        have pk := tk_pos hl1 hd1
        refine jss_cons (Ψ := fun ρ2 => ∃ acc' l' y', ρ2 = [some (.d (.int n)), some (.cl L (acc'.map prD)), some (.d (.int l')), some (.d (.int d)), y', some (.d (.int s))] ∧ plainS y' = true ∧ acc'.length ≤ acc.length + 1 ∧ 1 ≤ l' ∧ l' ≤ 1000000000000 ∧ facM z l' (d + s) (6 - s) acc' = facL n) (js_if (jt_eqI (je_mod (je_var 2) (je_var 3) (by first | decide | assumption | omega)) je_int) (fun h2 => ?_) (fun h2 => jss_nil ?_)) ?_
        · have h2 : l % d = 0 := of_decide_eq_true h2
          rw [if_pos h2] at hf
          refine jss_next (js_asg (je_call hX (ok_taken_out A) (ja_cons (je_var 2) (ja_cons (je_var 3) ja_nil)) ⟨_, _, rfl, _, _, hl1, hd1, by omega, tk_spec hl1 hd1, rfl⟩) (jg_tup hX (jgs_next (jg_name 4 nd rfl) (jgs_next (jg_name 2 nd rfl) (jgs_nil rfl))))) ?_
          refine jss_one (js_append 1 hX (je_tup (ja_cons (je_var 3) (ja_cons (je_var 4) ja_nil))) ?_ (.inr rfl) rfl ?_ ⟨acc ++ [(d, ((tk l d).1 : Int))], (tk l d).2, some (.d (.int (tk l d).1)), ?_, rfl, ?_, pk.1, by omega, hf⟩)
          · rw [List.length_map]; omega
          · rfl
          · rw [List.map_append]; rfl
          · rw [List.length_append]; exact Nat.le_refl _
        · have h2 : l % d ≠ 0 := of_decide_eq_false h2
          rw [if_neg h2] at hf
          exact ⟨acc, l, y, rfl, py, Nat.le_succ _, hl1, hl2, hf⟩
        · rintro ρ2 ⟨acc', l', y', rfl, py', ha', h1', h2', hf'⟩
          refine jss_one (js_par (i1 := 3) (i2 := 5) hX nd (ja_cons (je_add (je_var 3) (je_var 5)) (ja_cons (je_sub je_int (je_var 5)) ja_nil)) ⟨z, Nat.lt_succ_self _, acc', l', d + s, 6 - s, y', rfl, py', h1', h2', by omega, by omega, by omega, by omega, by omega, hf'⟩)
      · have h : ¬ d * d ≤ l := of_decide_eq_false h
        refine ⟨acc, l, y, _, _, rfl, rfl, py, rfl, by omega, ?_⟩
        cases z with
        | zero => exact hf
        | succ z => rw [facM, if_neg h] at hf; exact hf
    · rintro ρ' ⟨acc, l, y, x, s, rfl, px, py, ps, ha, hf⟩
      refine jss_cons (Ψ := fun ρ' => ρ' = [some (.d (.int n)), some (.cl L ((facL n).map prD)), some (.d (.int l)), x, y, s]) (js_if (jt_gt (je_var 2) je_int) (fun h => ?_) (fun h => jss_nil ?_)) ?_
      · refine jss_one (js_append 1 hX (je_tup (ja_cons (je_var 2) (ja_cons je_int ja_nil))) ?_ (.inr rfl) rfl ?_ ?_)
        · rw [List.length_map]; omega
        · show plainE [_, none, _, _, _, _] = true
          simp [plainE, plainS_d, plainS_n, px, py, ps]
        · have e : finL acc l = acc ++ [(l, 1)] := if_pos (of_decide_eq_true h)
          rw [← hf, e, List.map_append]
          rfl
      · have e : finL acc l = acc := if_neg (of_decide_eq_false h)
        rw [← hf, e]
      · rintro ρ' rfl
        exact jss_one (js_retC 1 ⟨_, .cl _ rfl, fun _ => rfl⟩)
end Fr
namespace Fr
open PySem PySem.Spec PyProof.Rows L2 StX
/-! ### parts_of, third_root -/
def goodF (q : Int × Int) : Prop := 2 ≤ q.1 ∧ q.1 ≤ 1000000000000 ∧ 0 ≤ q.2
theorem finL_good {acc : List (Int × Int)} {l : Int} (h : ∀ q ∈ acc, goodF q) (hl : l ≤ 1000000000000) : ∀ q ∈ finL acc l, goodF q := by
  unfold finL
  split
  · intro q hq
    rcases List.mem_append.mp hq with hq | hq
    · exact h q hq
    · rw [List.mem_singleton.mp hq]
      exact ⟨by show 2 ≤ l; omega, hl, by show (0 : Int) ≤ 1; decide⟩
  · exact h
theorem facM_good : ∀ (z : Nat) (l d s : Int) (acc : List (Int × Int)), (∀ q ∈ acc, goodF q) → 1 ≤ l → l ≤ 1000000000000 → 2 ≤ d → (s = 2 ∨ s = 4) → ∀ q ∈ facM z l d s acc, goodF q
  | 0, l, d, s, acc, h, _, hl, _, _ => finL_good h hl
  | z + 1, l, d, s, acc, h, hl1, hl, hd, hs => by
    rw [facM]
    have pk := tk_pos hl1 hd
    by_cases h1 : d * d ≤ l
    · rw [if_pos h1]
      by_cases h2 : l % d = 0
      · rw [if_pos h2]
        refine facM_good z _ _ _ _ (fun q hq => ?_) pk.1 (by omega) (by omega) (by omega)
        rcases List.mem_append.mp hq with hq | hq
        · exact h q hq
        · rw [List.mem_singleton.mp hq]
          have := Int.mul_le_mul_of_nonneg_right hd (show 0 ≤ d by omega)
          exact ⟨hd, by show d ≤ _; omega, by show 0 ≤ ((tk l d).1 : Int); omega⟩
      · rw [if_neg h2]
        exact facM_good z _ _ _ _ h hl1 hl (by omega) (by omega)
    · rw [if_neg h1]
      exact finL_good h hl
theorem stepA_good {acc : List (Int × Int)} {l d : Int} (h : ∀ q ∈ acc, goodF q) (hd : 2 ≤ d) (hd2 : d ≤ 3) : ∀ q ∈ stepA acc l d, goodF q := by
  unfold stepA
  split
  · intro q hq
    rcases List.mem_append.mp hq with hq | hq
    · exact h q hq
    · rw [List.mem_singleton.mp hq]
      exact ⟨hd, by show d ≤ _; omega, by show 0 ≤ ((tk l d).1 : Int); omega⟩
  · exact h
theorem facL_good {n : Int} (h1 : 1 ≤ n) (h2 : n ≤ 1000000000000) : ∀ q ∈ facL n, goodF q := by
  have p2 := tk_pos h1 (show (2 : Int) ≤ 2 by decide)
  have p3 := tk_pos p2.1 (show (2 : Int) ≤ 3 by decide)
  exact facM_good _ _ _ _ _ (stepA_good (stepA_good (fun q hq => by simp at hq) (by decide) (by decide)) (by decide) (by decide)) p3.1 (by omega) (by decide) (.inl rfl)
abbrev I3 := Int × Int × Int
def ptU (x : I3) (q : Int × Int) : I3 := if q.2 % 3 = 0 then (x.1 * q.1, x.2.1, x.2.2) else if q.2 % 3 = 1 then (x.1, x.2.1 * q.1, x.2.2) else (x.1, x.2.1, x.2.2 * q.1)
noncomputable def ptS (n : Int) : I3 := (facL n).foldl ptU (1, 1, 1)
noncomputable def ptA (n : Int) : Int := (ptS n).2.1
noncomputable def ptB (n : Int) : Int := (ptS n).2.2
def d3 (x : I3) : List D := [.int x.1, .int x.2.1, .int x.2.2]
theorem ptU_set (x : I3) (p t : Int) (ht : 0 ≤ t) : ∃ (n : Nat) (u : Int), t % 3 = (n : Int) ∧ (d3 x)[n]? = some (.int u) ∧ (d3 x).set n (.int (u * p)) = d3 (ptU x (p, t)) := by
  unfold ptU
  by_cases h0 : t % 3 = 0
  · exact ⟨0, x.1, h0, rfl, by simp only [h0]; rfl⟩
  · by_cases h1 : t % 3 = 1
    · exact ⟨1, x.2.1, h1, rfl, by simp only [h1]; rfl⟩
    · exact ⟨2, x.2.2, by omega, rfl, by
        show _ = d3 (if t % 3 = 0 then _ else if t % 3 = 1 then _ else _)
        rw [if_neg h0, if_neg h1]; rfl⟩
theorem ok_parts_of {T : Tx} (A : Al T) : PFn T "parts_of" 3 (fun ds r => ∃ n : Int, ds = [.int n] ∧ 1 ≤ n ∧ n ≤ 1000000000000 ∧ r = .tup [.int (ptA n), .int (ptB n)]) := by
  refine A.d_parts_of.pfn (k := 2) sc_parts_of (by rintro _ _ ⟨_, rfl, _⟩; rfl) fun f cdv Ar outer sh Hh E hX ds d h => ?_
  have nd : ∀ i, (XB T N_parts_of "parts_of" s_parts_of f cdv Ar outer sh Hh E i).N.Nodup := fun _ => sc_parts_of.nd
  obtain ⟨n, rfl, hn1, hn2, rfl⟩ := h
  refine jss_openSet 1 (ja_cons je_int (ja_cons je_int (ja_cons je_int ja_nil))) (by decide) nd fun L => ?_
  have fin : (facL n).take (facL n).length = facL n := List.take_length
  refine jss_cons (Ψ := fun ρ' => ∃ x y, ρ' = [some (.d (.int n)), some (.cl L (d3 (ptS n))), x, y]) (js_forW hX (fun _ => noPass) (jit_list hX (je_call hX (ok_factors_in A) (ja_cons (je_var 0) ja_nil) ⟨_, rfl, hn1, hn2, rfl⟩)) (fun z ρ' => ∃ x y, ρ' = [some (.d (.int n)), some (.cl L (d3 (((facL n).take z).foldl ptU (1, 1, 1)))), x, y] ∧ plainS x = true ∧ plainS y = true) ⟨none, none, rfl, rfl, rfl⟩ ?_ ?_) ?_
  · rintro z d ρ' hz ⟨x, y, rfl, px, py⟩
    rw [List.getElem?_map] at hz
    obtain ⟨⟨p, t⟩, hq, rfl⟩ : ∃ q, (facL n)[z]? = some q ∧ d = prD q := by
      cases e : (facL n)[z]? with
      | none => rw [e] at hz; cases hz
      | some q => rw [e] at hz; exact ⟨q, rfl, (Option.some.inj hz).symm⟩
    obtain ⟨hp1, hp2, ht⟩ := facL_good hn1 hn2 _ (List.mem_of_getElem? hq)
    have tk1 : (facL n).take (z + 1) = (facL n).take z ++ [(p, t)] := by rw [List.take_add_one, hq]; rfl
    obtain ⟨k, u, e1, e2, e3⟩ := ptU_set (((facL n).take z).foldl ptU (1, 1, 1)) p t ht
    refine jg_tup hX (jgs_next (jg_name 2 nd rfl) (jgs_next (jg_name 3 nd rfl) (jgs_nil ?_)))
    refine jss_one (js_clAug 1 k (fun _ => iop_mul) (je_mod (je_var 3) (je_glob hX A.c_MANY) (by first | decide | assumption | omega)) (je_var 2) e1 e2 (.inr ⟨?_, ?_⟩) (.inr rfl) rfl ?_ ⟨some (.d (.int p)), some (.d (.int t)), ?_, rfl, rfl⟩)
    · show -(2 ^ 64) < p
      have : (2 : Int) ≤ p := hp1
      omega
    · show p < 2 ^ 64
      have : p ≤ 1000000000000 := hp2
      omega
    · rfl
    · rw [tk1, List.foldl_append]
      show [_, some (Sl.cl L (List.set _ k _)), _, _] = _
      rw [e3]
      rfl
  · rintro ρ' ⟨x, y, rfl, _, _⟩
    refine ⟨x, y, ?_⟩
    rw [List.length_map, fin]
    rfl
  · rintro ρ' ⟨x, y, rfl⟩
    exact jss_one (js_ret (je_tup (ja_cons (je_clIx 1 1 hX je_int rfl rfl) (ja_cons (je_clIx 1 2 hX je_int rfl rfl) ja_nil))) ⟨_, .d _, fun _ => rfl⟩)
theorem ok_third_root {T : Tx} (A : Al T) : PFn T "third_root" 4 (fun ds r => ∃ n : Int, ds = [.int n] ∧ 2 ≤ n ∧ n ≤ 1000000000000 ∧ r = .tup [.int (ptA n), .int (ptB n)]) := by
  refine A.d_third_root.pfn (k := 3) sc_third_root (by rintro _ _ ⟨_, rfl, _⟩; rfl) fun f cdv Ar outer sh Hh E hX ds d h => ?_
  have nd : ∀ i, (XB T N_third_root "third_root" s_third_root f cdv Ar outer sh Hh E i).N.Nodup := fun _ => sc_third_root.nd
  obtain ⟨n, rfl, hn1, hn2, rfl⟩ := h
  refine jss_next (js_expr (je_call hX (ok_require_within A) (ja_cons (je_var 0) (ja_cons (je_glob hX A.c_LEAST_THIRD) (ja_cons (je_glob hX A.c_MAX_THIRD) ja_nil))) ⟨_, _, _, rfl, hn1, hn2, rfl⟩) rfl) ?_
  exact jss_one (js_ret (je_call hX (ok_parts_of A) (ja_cons (je_var 0) ja_nil) ⟨_, rfl, by omega, hn2, rfl⟩) rfl)
end Fr
namespace Fr
open PySem PySem.Spec PyProof.Rows L2 StX
/-! ### forms and changes -/
structure Fo where
  a : Int
  b : Int
  c : Int
  d : Int
structure Ma where
  p : Int
  q : Int
  r : Int
  s : Int
def fAt (a b c d x y : Int) : Int := ((a * x + b * y) * x + c * y * y) * x + d * y * y * y
def Fo.at (f : Fo) (x y : Int) : Int := fAt f.a f.b f.c f.d x y
def Fo.led (f : Fo) (m : Ma) : Fo :=
  ⟨(m.p * m.s - m.q * m.r) * fAt f.a f.b f.c f.d m.p m.q,
   (m.p * m.s - m.q * m.r) * (3 * f.a * m.p * m.p * m.r + f.b * (m.p * m.p * m.s + 2 * m.p * m.q * m.r) + f.c * (2 * m.p * m.q * m.s + m.q * m.q * m.r) + 3 * f.d * m.q * m.q * m.s),
   (m.p * m.s - m.q * m.r) * (3 * f.a * m.p * m.r * m.r + f.b * (m.r * m.r * m.q + 2 * m.p * m.r * m.s) + f.c * (2 * m.q * m.r * m.s + m.p * m.s * m.s) + 3 * f.d * m.q * m.s * m.s),
   (m.p * m.s - m.q * m.r) * fAt f.a f.b f.c f.d m.r m.s⟩
def Fo.disc (f : Fo) : Int := (f.b * f.b * f.c * f.c + 18 * f.a * f.b * f.c * f.d) - 4 * f.a * f.c * f.c * f.c - 4 * f.b * f.b * f.b * f.d - 27 * f.a * f.a * f.d * f.d
def Ma.join (m n : Ma) : Ma := ⟨n.p * m.p + n.q * m.r, n.p * m.q + n.q * m.s, n.r * m.p + n.s * m.r, n.r * m.q + n.s * m.s⟩
def dF (f : Fo) : D := dI4 f.a f.b f.c f.d
def dMa (m : Ma) : D := dM m.p m.q m.r m.s
structure SmF (f : Fo) : Prop where
  a : Sm 200 f.a
  b : Sm 200 f.b
  c : Sm 200 f.c
  d : Sm 200 f.d
structure SmM (m : Ma) : Prop where
  p : Sm 200 m.p
  q : Sm 200 m.q
  r : Sm 200 m.r
  s : Sm 200 m.s
theorem sm_at {a b c d x y : Int} (ha : Sm 200 a) (hb : Sm 200 b) (hc : Sm 200 c) (hd : Sm 200 d) (hx : Sm 200 x) (hy : Sm 200 y) : Sm 9000 (fAt a b c d x y) := by
  unfold fAt
  exact Sm.mono (by repeat first | assumption | exact Sm.lit | apply Sm.add | apply Sm.sub | apply Sm.mul | apply Sm.neg) (by decide)
theorem ok_form_at {T : Tx} (A : Al T) : PFn T "form_at" 1 (fun ds r => ∃ a b c d x y : Int, ds = [dI4 a b c d, .int x, .int y] ∧ Sm 200 a ∧ Sm 200 b ∧ Sm 200 c ∧ Sm 200 d ∧ Sm 200 x ∧ Sm 200 y ∧ r = .int (fAt a b c d x y)) := by
  refine A.d_form_at.pfn (k := 0) sc_form_at (by rintro _ _ ⟨_, _, _, _, _, _, rfl, _⟩; rfl) fun f cdv Ar outer sh Hh E hX ds d h => ?_
  have nd : ∀ i, (XB T N_form_at "form_at" s_form_at f cdv Ar outer sh Hh E i).N.Nodup := fun _ => sc_form_at.nd
  obtain ⟨a, b, c, d, x, y, rfl, ha, hb, hc, hd, hx, hy, rfl⟩ := h
  refine jss_next (js_asg (je_var 0) (jg_tup hX (jgs_next (jg_name 3 nd rfl) (jgs_next (jg_name 4 nd rfl) (jgs_next (jg_name 5 nd rfl) (jgs_next (jg_name 6 nd rfl) (jgs_nil rfl))))))) ?_
  refine JSs.norm (ρ2 := ?r1) ?e1 ?h1
  case e1 => dsimp only [startE, startC, N_form_at, nTail, nSet0, nSetS, nMap, nMap0, nLen, nLen0, Nat.reduceAdd, Nat.reduceSub, nRep, nRep0, nApp, nApp0]; exact rfl
  exact jss_one (js_ret (je_add (je_mul (JI.add (JI.mul (JI.add (JI.mul (JI.v 3) (JI.v 1)) (JI.mul (JI.v 4) (JI.v 2))) (JI.v 1)) (JI.mul (JI.mul (JI.v 5) (JI.v 2)) (JI.v 2))) (JI.v 1)) (je_mul (JI.mul (JI.mul (JI.v 6) (JI.v 2)) (JI.v 2)) (JI.v 2))) rfl)
theorem ok_form_led {T : Tx} (A : Al T) : PFn T "form_led" 2 (fun ds r => ∃ (f : Fo) (m : Ma), ds = [dF f, dMa m] ∧ SmF f ∧ SmM m ∧ r = dF (f.led m)) := by
  refine A.d_form_led.pfn (k := 1) sc_form_led (by rintro _ _ ⟨_, _, rfl, _⟩; rfl) fun f cdv Ar outer sh Hh E hX ds d h => ?_
  have nd : ∀ i, (XB T N_form_led "form_led" s_form_led f cdv Ar outer sh Hh E i).N.Nodup := fun _ => sc_form_led.nd
  obtain ⟨⟨a, b, c, d⟩, ⟨p, q, r, s⟩, rfl, ⟨ha, hb, hc, hd⟩, ⟨hp, hq, hr, hs⟩, rfl⟩ := h
  dsimp only at ha hb hc hd hp hq hr hs
  show JSs T _ noM (startE N_form_led [dI4 a b c d, dM p q r s]) _ _
  have f1 := sm_at ha hb hc hd hp hq
  have f2 := sm_at ha hb hc hd hr hs
  refine jss_next (js_asg (je_var 0) (jg_tup hX (jgs_next (jg_name 2 nd rfl) (jgs_next (jg_name 3 nd rfl) (jgs_next (jg_name 4 nd rfl) (jgs_next (jg_name 5 nd rfl) (jgs_nil rfl))))))) ?_
  refine JSs.norm (ρ2 := ?r2) ?e2 ?h2
  case e2 => dsimp only [startE, startC, N_form_led, nTail, nSet0, nSetS, nMap, nMap0, nLen, nLen0, Nat.reduceAdd, Nat.reduceSub, nRep, nRep0, nApp, nApp0]; exact rfl
  refine jss_next (js_asg (je_var 1) (jg_tup hX (jgs_next (jg_tup hX (jgs_next (jg_name 6 nd rfl) (jgs_next (jg_name 7 nd rfl) (jgs_nil rfl)))) (jgs_next (jg_tup hX (jgs_next (jg_name 8 nd rfl) (jgs_next (jg_name 9 nd rfl) (jgs_nil rfl)))) (jgs_nil rfl))))) ?_
  refine JSs.norm (ρ2 := ?r3) ?e3 ?h3
  case e3 => dsimp only [startE, startC, N_form_led, nTail, nSet0, nSetS, nMap, nMap0, nLen, nLen0, Nat.reduceAdd, Nat.reduceSub, nRep, nRep0, nApp, nApp0]; exact rfl
  refine jss_next (js_set 10 (je_sub (je_mul (JI.v 6) (JI.v 9)) (je_mul (JI.v 7) (JI.v 8))) rfl nd) ?_
  refine JSs.norm (ρ2 := ?r4) ?e4 ?h4
  case e4 => dsimp only [startE, startC, N_form_led, nTail, nSet0, nSetS, nMap, nMap0, nLen, nLen0, Nat.reduceAdd, Nat.reduceSub, nRep, nRep0, nApp, nApp0]; exact rfl
  refine jss_next (js_set 11 (je_add (je_add (je_add (je_mul (JI.mul (JI.mul (JI.mul (JI.int 1) (JI.v 2)) (JI.v 6)) (JI.v 6)) (JI.v 8)) (je_mul (JI.v 3) (JI.add (JI.mul (JI.mul (JI.v 6) (JI.v 6)) (JI.v 9)) (JI.mul (JI.mul (JI.mul (JI.int 1) (JI.v 6)) (JI.v 7)) (JI.v 8))))) (je_mul (JI.v 4) (JI.add (JI.mul (JI.mul (JI.mul (JI.int 1) (JI.v 6)) (JI.v 7)) (JI.v 9)) (JI.mul (JI.mul (JI.v 7) (JI.v 7)) (JI.v 8))))) (je_mul (JI.mul (JI.mul (JI.mul (JI.int 1) (JI.v 5)) (JI.v 7)) (JI.v 7)) (JI.v 9))) rfl nd) ?_
  refine JSs.norm (ρ2 := ?r5) ?e5 ?h5
  case e5 => dsimp only [startE, startC, N_form_led, nTail, nSet0, nSetS, nMap, nMap0, nLen, nLen0, Nat.reduceAdd, Nat.reduceSub, nRep, nRep0, nApp, nApp0]; exact rfl
  refine jss_next (js_set 12 (je_add (je_add (je_add (je_mul (JI.mul (JI.mul (JI.mul (JI.int 1) (JI.v 2)) (JI.v 6)) (JI.v 8)) (JI.v 8)) (je_mul (JI.v 3) (JI.add (JI.mul (JI.mul (JI.v 8) (JI.v 8)) (JI.v 7)) (JI.mul (JI.mul (JI.mul (JI.int 1) (JI.v 6)) (JI.v 8)) (JI.v 9))))) (je_mul (JI.v 4) (JI.add (JI.mul (JI.mul (JI.mul (JI.int 1) (JI.v 7)) (JI.v 8)) (JI.v 9)) (JI.mul (JI.mul (JI.v 6) (JI.v 9)) (JI.v 9))))) (je_mul (JI.mul (JI.mul (JI.mul (JI.int 1) (JI.v 5)) (JI.v 7)) (JI.v 9)) (JI.v 9))) rfl nd) ?_
  refine JSs.norm (ρ2 := ?r6) ?e6 ?h6
  case e6 => dsimp only [startE, startC, N_form_led, nTail, nSet0, nSetS, nMap, nMap0, nLen, nLen0, Nat.reduceAdd, Nat.reduceSub, nRep, nRep0, nApp, nApp0]; exact rfl
  exact jss_one (js_ret (je_tup (ja_cons (je_mul (JI.x (je_var 10) (Sm.mono (by repeat first | assumption | exact Sm.lit | apply Sm.add | apply Sm.sub | apply Sm.mul | apply Sm.neg) (by decide))) (JI.x (je_call hX (ok_form_at A) (ja_cons (je_var 0) (ja_cons (je_var 6) (ja_cons (je_var 7) ja_nil))) ⟨_, _, _, _, _, _, rfl, ha, hb, hc, hd, hp, hq, rfl⟩) (by assumption))) (ja_cons (je_mul (JI.x (je_var 10) (Sm.mono (by repeat first | assumption | exact Sm.lit | apply Sm.add | apply Sm.sub | apply Sm.mul | apply Sm.neg) (by decide))) (JI.x (je_var 11) (Sm.mono (by repeat first | assumption | exact Sm.lit | apply Sm.add | apply Sm.sub | apply Sm.mul | apply Sm.neg) (by decide)))) (ja_cons (je_mul (JI.x (je_var 10) (Sm.mono (by repeat first | assumption | exact Sm.lit | apply Sm.add | apply Sm.sub | apply Sm.mul | apply Sm.neg) (by decide))) (JI.x (je_var 12) (Sm.mono (by repeat first | assumption | exact Sm.lit | apply Sm.add | apply Sm.sub | apply Sm.mul | apply Sm.neg) (by decide)))) (ja_cons (je_mul (JI.x (je_var 10) (Sm.mono (by repeat first | assumption | exact Sm.lit | apply Sm.add | apply Sm.sub | apply Sm.mul | apply Sm.neg) (by decide))) (JI.x (je_call hX (ok_form_at A) (ja_cons (je_var 0) (ja_cons (je_var 8) (ja_cons (je_var 9) ja_nil))) ⟨_, _, _, _, _, _, rfl, ha, hb, hc, hd, hr, hs, rfl⟩) (by assumption))) ja_nil))))) rfl)
theorem ok_discriminant_of {T : Tx} (A : Al T) : PFn T "discriminant_of" 1 (fun ds r => ∃ f : Fo, ds = [dF f] ∧ SmF f ∧ r = .int f.disc) := by
  refine A.d_discriminant_of.pfn (k := 0) sc_discriminant_of (by rintro _ _ ⟨_, rfl, _⟩; rfl) fun f cdv Ar outer sh Hh E hX ds d h => ?_
  have nd : ∀ i, (XB T N_discriminant_of "discriminant_of" s_discriminant_of f cdv Ar outer sh Hh E i).N.Nodup := fun _ => sc_discriminant_of.nd
  obtain ⟨⟨a, b, c, d⟩, rfl, ⟨ha, hb, hc, hd⟩, rfl⟩ := h
  dsimp only at ha hb hc hd
  show JSs T _ noM (startE N_discriminant_of [dI4 a b c d]) _ _
  refine jss_next (js_asg (je_var 0) (jg_tup hX (jgs_next (jg_name 1 nd rfl) (jgs_next (jg_name 2 nd rfl) (jgs_next (jg_name 3 nd rfl) (jgs_next (jg_name 4 nd rfl) (jgs_nil rfl))))))) ?_
  refine JSs.norm (ρ2 := ?r7) ?e7 ?h7
  case e7 => dsimp only [startE, startC, N_discriminant_of, nTail, nSet0, nSetS, nMap, nMap0, nLen, nLen0, Nat.reduceAdd, Nat.reduceSub, nRep, nRep0, nApp, nApp0]; exact rfl
  refine jss_next (js_set 5 (je_add (je_mul (JI.mul (JI.mul (JI.v 2) (JI.v 2)) (JI.v 3)) (JI.v 3)) (je_mul (JI.mul (JI.mul (JI.mul (JI.int 4) (JI.v 1)) (JI.v 2)) (JI.v 3)) (JI.v 4))) rfl nd) ?_
  refine JSs.norm (ρ2 := ?r8) ?e8 ?h8
  case e8 => dsimp only [startE, startC, N_discriminant_of, nTail, nSet0, nSetS, nMap, nMap0, nLen, nLen0, Nat.reduceAdd, Nat.reduceSub, nRep, nRep0, nApp, nApp0]; exact rfl
  exact jss_one (js_ret (je_sub (je_sub (je_sub (je_var 5) (je_mul (JI.mul (JI.mul (JI.mul (JI.int 2) (JI.v 1)) (JI.v 3)) (JI.v 3)) (JI.v 3))) (je_mul (JI.mul (JI.mul (JI.mul (JI.int 2) (JI.v 2)) (JI.v 2)) (JI.v 2)) (JI.v 4))) (je_mul (JI.mul (JI.mul (JI.mul (JI.int 4) (JI.v 1)) (JI.v 1)) (JI.v 4)) (JI.v 4))) rfl)
theorem ok_joined_in {T : Tx} (A : Al T) : PFn T "joined_in" 1 (fun ds r => ∃ m n : Ma, ds = [dMa m, dMa n] ∧ SmM m ∧ SmM n ∧ r = dMa (m.join n)) := by
  refine A.d_joined_in.pfn (k := 0) sc_joined_in (by rintro _ _ ⟨_, _, rfl, _⟩; rfl) fun f cdv Ar outer sh Hh E hX ds d h => ?_
  have nd : ∀ i, (XB T N_joined_in "joined_in" s_joined_in f cdv Ar outer sh Hh E i).N.Nodup := fun _ => sc_joined_in.nd
  obtain ⟨⟨p, q, r, s⟩, ⟨i, j, k, l⟩, rfl, ⟨hp, hq, hr, hs⟩, ⟨hi, hj, hk, hl⟩, rfl⟩ := h
  dsimp only at hp hq hr hs hi hj hk hl
  show JSs T _ noM (startE N_joined_in [dM p q r s, dM i j k l]) _ _
  refine jss_next (js_asg (je_var 0) (jg_tup hX (jgs_next (jg_tup hX (jgs_next (jg_name 2 nd rfl) (jgs_next (jg_name 3 nd rfl) (jgs_nil rfl)))) (jgs_next (jg_tup hX (jgs_next (jg_name 4 nd rfl) (jgs_next (jg_name 5 nd rfl) (jgs_nil rfl)))) (jgs_nil rfl))))) ?_
  refine JSs.norm (ρ2 := ?r9) ?e9 ?h9
  case e9 => dsimp only [startE, startC, N_joined_in, nTail, nSet0, nSetS, nMap, nMap0, nLen, nLen0, Nat.reduceAdd, Nat.reduceSub, nRep, nRep0, nApp, nApp0]; exact rfl
  refine jss_next (js_asg (je_var 1) (jg_tup hX (jgs_next (jg_tup hX (jgs_next (jg_name 6 nd rfl) (jgs_next (jg_name 7 nd rfl) (jgs_nil rfl)))) (jgs_next (jg_tup hX (jgs_next (jg_name 8 nd rfl) (jgs_next (jg_name 9 nd rfl) (jgs_nil rfl)))) (jgs_nil rfl))))) ?_
  refine JSs.norm (ρ2 := ?r10) ?e10 ?h10
  case e10 => dsimp only [startE, startC, N_joined_in, nTail, nSet0, nSetS, nMap, nMap0, nLen, nLen0, Nat.reduceAdd, Nat.reduceSub, nRep, nRep0, nApp, nApp0]; exact rfl
  exact jss_one (js_ret (je_tup (ja_cons (je_tup (ja_cons (je_add (je_mul (JI.v 6) (JI.v 2)) (je_mul (JI.v 7) (JI.v 4))) (ja_cons (je_add (je_mul (JI.v 6) (JI.v 3)) (je_mul (JI.v 7) (JI.v 5))) ja_nil))) (ja_cons (je_tup (ja_cons (je_add (je_mul (JI.v 8) (JI.v 2)) (je_mul (JI.v 9) (JI.v 4))) (ja_cons (je_add (je_mul (JI.v 8) (JI.v 3)) (je_mul (JI.v 9) (JI.v 5))) ja_nil))) ja_nil))) rfl)
end Fr
namespace Fr
open PySem PySem.Spec PyProof.Rows L2 StX
/-! ### objects -/
structure In60 (f : Fo) : Prop where
  a : f.a.natAbs < 10 ^ 60
  b : f.b.natAbs < 10 ^ 60
  c : f.c.natAbs < 10 ^ 60
  d : f.d.natAbs < 10 ^ 60
theorem in60_mem {f : Fo} (h : In60 f) : ∀ d ∈ [D.int f.a, .int f.b, .int f.c, .int f.d], ∃ i : Int, d = .int i ∧ i.natAbs < 10 ^ 60 := fun d hd => by
  simp only [List.mem_cons, List.not_mem_nil, or_false] at hd
  rcases hd with rfl | rfl | rfl | rfl
  · exact ⟨_, rfl, h.a⟩
  · exact ⟨_, rfl, h.b⟩
  · exact ⟨_, rfl, h.c⟩
  · exact ⟨_, rfl, h.d⟩
theorem ok_are_integers {T : Tx} (A : Al T) : PFn T "are_integers" 3 (fun ds r => ∃ f : Fo, ds = [dF f, .int 4] ∧ In60 f ∧ r = .bl true) := by
  refine A.d_are_integers.pfn (k := 2) sc_are_integers (by rintro _ _ ⟨_, rfl, _⟩; rfl) fun f cdv Ar outer sh Hh E hX ds d h => ?_
  have nd : ∀ i, (XB T N_are_integers "are_integers" s_are_integers f cdv Ar outer sh Hh E i).N.Nodup := fun _ => sc_are_integers.nd
  obtain ⟨fo, rfl, hf, rfl⟩ := h
  refine jss_one (js_ret (je_and (je_isiB hX A.b_isinstance A.cls A.b_tuple bt_tuple (je_var 0) kit_tt) (je_and (je_eqI (je_lenT hX A.b_len (je_var 0)) (je_var 1)) (je_one (je_all (l := [true, true, true, true]) hX A.b_all
    (je_lcL 2 (fun _ => .bl true) hX nd (jit_tup hX (je_var 0)) (he := fun d hd => ?_) (ok := fun _ => blkOk_by rfl)))))) ?_)
  · obtain ⟨i, rfl, hi⟩ := in60_mem hf d hd
    exact je_call (hX.blk _) (ok_is_integer A) (ja_cons (je_var 2) ja_nil) ⟨_, rfl, hi, rfl⟩
  · rfl
theorem ok_form_told {T : Tx} (A : Al T) : PFn T "form_told" 4 (fun ds r => (∃ d, ds = [.obj false d] ∧ r = d) ∨ ∃ f : Fo, ds = [dF f] ∧ In60 f ∧ r = dF f) := by
  refine A.d_form_told.pfn (k := 3) sc_form_told (by rintro _ _ (⟨_, rfl, _⟩ | ⟨_, rfl, _⟩) <;> rfl) fun f cdv Ar outer sh Hh E hX ds d h => ?_
  rcases h with ⟨d, rfl, rfl⟩ | ⟨fo, rfl, hf, rfl⟩
  · exact jss_stop (js_if (jt_val (je_isiC (x := .obj false d) hX A.b_isinstance A.cls A.g_KeptForm (je_var 0) A.kKK)) (fun _ => jss_one (js_ret (je_slot hX (A.cls false) A.sl_own_numbers (je_var 0)) rfl)) (fun h => nomatch h))
  · refine jss_cons (Ψ := fun ρ' => ρ' = [some (.d (dF fo))]) (js_if (jt_val (je_isiC (x := dF fo) hX A.b_isinstance A.cls A.g_KeptForm (je_var 0) A.kTK)) (fun h => nomatch h) (fun _ => jss_nil rfl)) ?_
    rintro ρ' rfl
    refine jss_cons (Ψ := fun ρ' => ρ' = [some (.d (dF fo))]) (js_if (jt_not (jt_val (je_call hX (ok_are_integers A) (ja_cons (je_var 0) (ja_cons (je_glob hX A.c_SIZE_forms) ja_nil)) ⟨_, rfl, hf, rfl⟩))) (fun h => nomatch h) (fun _ => jss_nil rfl)) ?_
    rintro ρ' rfl
    exact jss_one (js_ret (je_var 0) rfl)
theorem mk_KeptForm {T : Tx} (A : Al T) : MkOk T false "KeptForm" 1 (fun d d' => ∃ l, (d = .tup l ∨ d = .lst l) ∧ d' = .tup l) := by
  obtain ⟨f, fd, F, M, hb⟩ := A.m_KeptForm_init
  obtain ⟨p, sl⟩ := A.sl_own_numbers.ex
  refine mkok_mk (k := 0) F sc_KeptForm_init M hb A.g_KeptForm (A.cls false) ⟨p, sl⟩ rfl fun cdv Ar outer sh Hh E self hX d d' h => ?_
  obtain ⟨l, h | h, rfl⟩ := h <;> subst h
  · exact je_tupleT hX A.b_tuple (je_var 1)
  · exact je_tupleL hX A.b_tuple (je_var 1)
theorem mk_Form {T : Tx} (A : Al T) : MkOk T true "Form" 5 (fun d d' => d = .obj false d' ∨ ∃ f : Fo, d = dF f ∧ In60 f ∧ d' = dF f) := by
  obtain ⟨f, fd, F, M, hb⟩ := A.m_Form_init
  obtain ⟨p, sl⟩ := A.sl_own_coefficients.ex
  refine mkok_mk (k := 4) F sc_Form_init M hb A.g_Form (A.cls true) ⟨p, sl⟩ rfl fun cdv Ar outer sh Hh E self hX d d' h => ?_
  rcases h with rfl | ⟨fo, rfl, hf, rfl⟩
  · exact je_call hX (ok_form_told A) (ja_cons (je_var 1) ja_nil) (.inl ⟨_, rfl, rfl⟩)
  · exact je_call hX (ok_form_told A) (ja_cons (je_var 1) ja_nil) (.inr ⟨_, rfl, hf, rfl⟩)
theorem ok_made_form {T : Tx} (A : Al T) : PFn T "made_form" 7 (fun ds r => ∃ l, (ds = [.tup l] ∨ ds = [.lst l]) ∧ r = .obj true (.tup l)) := by
  refine A.d_made_form.pfn (k := 6) sc_made_form (by rintro _ _ ⟨_, rfl | rfl, _⟩ <;> rfl) fun f cdv Ar outer sh Hh E hX ds d h => ?_
  obtain ⟨l, h | h, rfl⟩ := h <;> subst h
  · exact jss_one (js_ret (je_make hX (mk_Form A) (je_make hX (mk_KeptForm A) (je_var 0) ⟨_, .inl rfl, rfl⟩) (.inl rfl)) rfl)
  · exact jss_one (js_ret (je_make hX (mk_Form A) (je_make hX (mk_KeptForm A) (je_var 0) ⟨_, .inr rfl, rfl⟩) (.inl rfl)) rfl)
theorem ok_require_form {T : Tx} (A : Al T) : PFn T "require_form" 1 (fun ds r => ∃ d, ds = [.obj true d] ∧ r = .non) := by
  refine A.d_require_form.pfn (k := 0) sc_require_form (by rintro _ _ ⟨_, rfl, _⟩; rfl) fun f cdv Ar outer sh Hh E hX ds d h => ?_
  have nd : ∀ i, (XB T N_require_form "require_form" s_require_form f cdv Ar outer sh Hh E i).N.Nodup := fun _ => sc_require_form.nd
  obtain ⟨d, rfl, rfl⟩ := h
  exact jss_one (js_if (jt_not (jt_val (je_isiC (x := .obj true d) hX A.b_isinstance A.cls A.g_Form (je_var 0) A.kFF))) (fun h => nomatch h) (fun _ => jss_nil rfl))
theorem ok_Form_discriminant {T : Tx} (A : Al T) : PropOk T "discriminant" 2 (fun ds r => ∃ f : Fo, ds = [.obj true (dF f)] ∧ SmF f ∧ r = .int f.disc) := by
  obtain ⟨p, g, fd, h1, h2, h3, h4, F, hb⟩ := A.m_disc
  refine ⟨p, g, h1, h2, h3, h4, spP_raw (fn_mk (N := N_Form_discriminant) (k := 1) F sc_Form_discriminant (by rintro _ _ ⟨_, rfl, _⟩; rfl) fun cdv Ar outer sh Hh E hX ds d h => ?_) hb⟩
  obtain ⟨fo, rfl, hf, rfl⟩ := h
  exact jss_one (js_ret (je_call hX (ok_discriminant_of A) (ja_cons (je_slot hX (A.cls true) A.sl_own_coefficients (je_var 0)) ja_nil) ⟨_, rfl, hf, rfl⟩) rfl)
theorem ok_item {T : Tx} (A : Al T) : ItemOk T 3 (fun ds r => ∃ f : Fo, (ds = [.obj true (dF f), .int 0] ∧ r = .int f.a) ∨ (ds = [.obj true (dF f), .int 3] ∧ r = .int f.d)) := by
  obtain ⟨g, fd, h1, h2, h3, F, hb⟩ := A.m_item
  refine ⟨g, h1, h2, h3, spP_raw (fn_mk (N := N_Form_getitem) (k := 2) F sc_Form_getitem (by rintro _ _ ⟨_, ⟨rfl, _⟩ | ⟨rfl, _⟩⟩ <;> rfl) fun cdv Ar outer sh Hh E hX ds d h => ?_) hb⟩
  obtain ⟨fo, ⟨rfl, rfl⟩ | ⟨rfl, rfl⟩⟩ := h
  · refine jss_cons (Ψ := fun ρ' => ρ' = [some (.d (.obj true (dF fo))), some (.d (.int 0))]) (js_if (jt_W (jw_or (jt_not (jt_val (je_call hX (ok_is_integer A) (ja_cons (je_var 1) ja_nil) ⟨_, rfl, by decide, rfl⟩))) (jw_or1 (jt_not (jt_leLt je_int (je_var 1) (je_glob hX A.c_SIZE_forms)))))) (fun h => absurd h (by decide)) (fun _ => jss_nil rfl)) ?_
    rintro ρ' rfl
    exact jss_one (js_ret (je_ix hX (je_slot hX (A.cls true) A.sl_own_coefficients (je_var 0)) (je_var 1) 0 rfl rfl) rfl)
  · refine jss_cons (Ψ := fun ρ' => ρ' = [some (.d (.obj true (dF fo))), some (.d (.int 3))]) (js_if (jt_W (jw_or (jt_not (jt_val (je_call hX (ok_is_integer A) (ja_cons (je_var 1) ja_nil) ⟨_, rfl, by decide, rfl⟩))) (jw_or1 (jt_not (jt_leLt je_int (je_var 1) (je_glob hX A.c_SIZE_forms)))))) (fun h => absurd h (by decide)) (fun _ => jss_nil rfl)) ?_
    rintro ρ' rfl
    exact jss_one (js_ret (je_ix hX (je_slot hX (A.cls true) A.sl_own_coefficients (je_var 0)) (je_var 1) 3 rfl rfl) rfl)
/-! ### == -/
theorem ok_eq {T : Tx} (A : Al T) : EqOk T 1 := by
  obtain ⟨g, fd, h1, h2, F, hb⟩ := A.m_eq
  obtain ⟨p, sl⟩ := A.sl_own_coefficients.ex
  have G : FnOk T.P T.w T.K T.mg T.base CX0 1 g fd P_Form_eq (SpEqF T) := by
    refine F.ok (N := N_Form_eq) sc_Form_eq (fun vs H Q E h => ?_) (fun cdv Ar outer s H vs Q E _ hr h => ?_)
    · obtain ⟨a, b, dx, dy, u, w, x, y, rfl, _⟩ := h
      rfl
    · obtain ⟨a, b, dx, dy, u, w, x, y, rfl, s1, s2, d1, d2, p1, p2, q⟩ := h
      refine ⟨tRet _, pss_one (ps_ret (pe_and (pe_callB (id := "isinstance") (r := SlX.rIsiSl T.K (.ref T.cF)) (SlX.call_isiSl _) rfl A.b_isinstance (by decide +kernel) (pa_cons (pe_var (i := 1) rfl (Or.inl rfl) (by decide) (by decide)) (pa_cons (pe_glob (v := .ref T.cF) rfl A.g_Form rfl (by decide)) pa_nil)))
        (pe_one (pe_cmpR (r := rEqD T.K) (op_eqD (hr.units)) (SlX.pe_sl (pe_var (i := 0) rfl (Or.inl rfl) (by decide) (by decide))) (SlX.pe_sl (pe_var (i := 1) rfl (Or.inl rfl) (by decide) (by decide))) (nomark _))))), ?_⟩
      have hc := A.cls true
      refine ⟨_, rfl, b, T.cF, dy, _, _, true, rfl, rfl, fun w h => h, s2, hc.sc, hc.isi, A.kFF, true, rfl, ?_⟩
      rw [if_pos rfl]
      exact ⟨_, rfl, a, T.cF, dx, p, _, 0, u, rfl, s1, hc.sc, sl, rfl, _, rfl, b, T.cF, dy, p, _, 0, w, rfl, s2, hc.sc, sl, rfl, x, y, d1, d2, p1, p2, q⟩
  exact ⟨⟨g, h1, h2, (G.raw hb .nil).imp fun vs H Q E h => by rw [List.append_nil]; exact h⟩, A.ne, A.mr⟩
/-! ### str -/
def digS : D → Str
  | .int 1 => "1"
  | .int 2 => "2"
  | .int 3 => "3"
  | .int 4 => "4"
  | .int 5 => "5"
  | .int 6 => "6"
  | _ => ""
def Dg (d : D) : Prop := d = .int 1 ∨ d = .int 2 ∨ d = .int 3 ∨ d = .int 4 ∨ d = .int 5 ∨ d = .int 6
theorem dg_text {d : D} (h : Dg d) : ∃ i : Int, d = .int i ∧ i.natAbs.log2 < 1920 ∧ (toString i : Str) = digS d := by
  rcases h with rfl | rfl | rfl | rfl | rfl | rfl <;> exact ⟨_, rfl, by decide +kernel, by decide +kernel⟩
inductive Tx3 : Fo → Str → Prop
  | a : Tx3 ⟨1, 3, 3, 3⟩ "(1, 3, 3, 3)"
  | b : Tx3 ⟨2, 2, 4, 1⟩ "(2, 2, 4, 1)"
  | c : Tx3 ⟨2, 6, 6, 5⟩ "(2, 6, 6, 5)"
def lst4 (f : Fo) : List D := [.int f.a, .int f.b, .int f.c, .int f.d]
theorem tx3_dg {f : Fo} {s : Str} (h : Tx3 f s) : ∀ d ∈ lst4 f, Dg d := by
  cases h <;> (intro d hd; simp only [lst4, List.mem_cons, List.not_mem_nil, or_false] at hd; unfold Dg; rcases hd with rfl | rfl | rfl | rfl <;> simp)
theorem tx3_join {f : Fo} {s : Str} (h : Tx3 f s) : Str.empty ++ ("(" : Str) ++ Txt.join ", " ((lst4 f).map digS) ++ (")" : Str) = s ∧ (((lst4 f).map digS).map (·.length)).sum + ((lst4 f).map digS).length * (", " : Str).length ≤ 16777216 ∧
    (Txt.join ", " ((lst4 f).map digS)).length ≤ sizeLine ∧ (Str.empty ++ ("(" : Str)).length ≤ sizeLine ∧ (Str.empty ++ ("(" : Str) ++ Txt.join ", " ((lst4 f).map digS)).length ≤ sizeLine ∧ s.length ≤ sizeLine := by
  cases h <;> exact ⟨by decide +kernel, by decide +kernel, by decide +kernel, by decide +kernel, by decide +kernel, by decide +kernel⟩
theorem ok_numbers_text {T : Tx} (A : Al T) : PFn T "numbers_text" 1 (fun ds r => ∃ (f : Fo) (s : Str), ds = [dF f] ∧ Tx3 f s ∧ r = .str s) := by
  refine A.d_numbers_text.pfn (k := 0) sc_numbers_text (by rintro _ _ ⟨_, _, rfl, _⟩; rfl) fun f cdv Ar outer sh Hh E hX ds d h => ?_
  have nd : ∀ i, (XB T N_numbers_text "numbers_text" s_numbers_text f cdv Ar outer sh Hh E i).N.Nodup := fun _ => sc_numbers_text.nd
  obtain ⟨fo, s, rfl, ht, rfl⟩ := h
  obtain ⟨j1, j2, j3, j4, j5, j6⟩ := tx3_join ht
  refine jss_next (js_set 1 (je_join (l := (lst4 fo).map digS) hX je_str (je_lcL (src := lst4 fo) 2 (fun d => .str (digS d)) hX nd (jit_tup hX (je_var 0)) (e := by rw [List.map_map]; rfl) (he := fun d hd => ?_) (ok := fun _ => blkOk_by rfl)) j2) rfl nd) ?_
  · obtain ⟨i, rfl, h1, h2⟩ := dg_text (tx3_dg ht d hd)
    rw [← h2]
    exact je_strI (hX.blk _) A.b_str (je_var 2) h1
  · refine jss_one (js_ret (je_fstr3 (je_var 1) j3 j4 j5 (by rw [j1]; exact j6)) ?_)
    show Sl.d (.str _) = Sl.d (.str _)
    rw [j1]
theorem ok_str {T : Tx} (A : Al T) : StrOk T 2 (fun ds r => ∃ (f : Fo) (s : Str), ds = [.obj true (dF f)] ∧ Tx3 f s ∧ r = .str s) := by
  obtain ⟨g, fd, h1, h2, F, hb⟩ := A.m_str
  refine ⟨g, h1, h2, spP_raw (fn_mk (N := N_Form_str) (k := 1) F sc_Form_str (by rintro _ _ ⟨_, _, rfl, _⟩; rfl) fun cdv Ar outer sh Hh E hX ds d h => ?_) hb⟩
  obtain ⟨fo, s, rfl, ht, rfl⟩ := h
  obtain ⟨j1, j2, j3, j4, j5, j6⟩ := tx3_join ht
  exact jss_one (js_ret (je_fstr1 (je_call hX (ok_numbers_text A) (ja_cons (je_slot hX (A.cls true) A.sl_own_coefficients (je_var 0)) ja_nil) ⟨_, _, rfl, ht, rfl⟩) j6) rfl)
end Fr
namespace Fr
open PySem PySem.Spec PyProof.Rows L2 StX
theorem JT.eq {T : Tx} {ι : Type} {X : ι → Cx} {ρ : En} {a : Expr} {c c' : Bool} (h : JT T X ρ a c) (e : c = c') : JT T X ρ a c' := e ▸ h
theorem JE.eq {T : Tx} {ι : Type} {X : ι → Cx} {ρ : En} {a : Expr} {c c' : D} (h : JE T X ρ a c) (e : c = c') : JE T X ρ a c' := e ▸ h
theorem ok_lowest_place {T : Tx} (A : Al T) : PFn T "lowest_place" 2 (fun ds r => ∃ x y : Int, ds = [.int x, .int y] ∧ 0 < y ∧ Sm 190 y ∧ r = dP (x / (Nat.gcd x.natAbs y.natAbs : Nat)) (y / (Nat.gcd x.natAbs y.natAbs : Nat))) := by
  refine A.d_lowest_place.pfn (k := 1) sc_lowest_place (by rintro _ _ ⟨_, _, rfl, _⟩; rfl) fun f cdv Ar outer sh Hh E hX ds d h => ?_
  have nd : ∀ i, (XB T N_lowest_place "lowest_place" s_lowest_place f cdv Ar outer sh Hh E i).N.Nodup := fun _ => sc_lowest_place.nd
  obtain ⟨x, y, rfl, hy, hs, rfl⟩ := h
  have hg : 0 < (Nat.gcd x.natAbs y.natAbs : Int) := by
    have := Nat.gcd_pos_of_pos_right x.natAbs (show 0 < y.natAbs by omega)
    omega
  have hg2 : Sm 200 (Nat.gcd x.natAbs y.natAbs : Int) := by
    have := Nat.gcd_le_right x.natAbs (show 0 < y.natAbs by omega)
    unfold Sm at *
    omega
  refine jss_next (js_set 2 (je_call hX (ok_common_of A) (ja_cons (je_var 0) (ja_cons (je_var 1) ja_nil)) ⟨_, _, rfl, rfl⟩) rfl nd) ?_
  refine JSs.norm (ρ2 := ?r1) ?e1 ?h1
  case e1 => dsimp only [startE, startC, N_lowest_place, nTail, nSet0, nSetS, nMap, nMap0, nLen, nLen0, Nat.reduceAdd, Nat.reduceSub, nRep, nRep0, nApp, nApp0]; exact rfl
  refine jss_cons (Ψ := fun ρ' => ρ' = [some (.d (.int x)), some (.d (.int y)), some (.d (.int (Nat.gcd x.natAbs y.natAbs : Nat)))]) (js_if (jt_W (jw_or (jt_lt (je_var 1) je_int) (jw_or1 (jt_W (jw_and (jt_eqI (je_var 1) je_int) (jw_and1 (jt_lt (je_var 0) je_int))))))) (fun h => ?_) (fun _ => jss_nil rfl)) ?_
  · exfalso
    simp only [Bool.or_eq_true, Bool.and_eq_true, decide_eq_true_eq] at h
    omega
  · rintro ρ' rfl
    exact jss_one (js_ret (je_tup (ja_cons (je_div (je_var 0) (JI.v 2) (by first | decide | assumption | omega)) (ja_cons (je_div (je_var 1) (JI.v 2) (by first | decide | assumption | omega)) ja_nil))) rfl)
theorem ok_places_of_double {T : Tx} (A : Al T) : PFn T "places_of_double" 1 (fun ds r => ds = [.tup [.int 1, .int 1, .int 1]] ∧ r = .lst []) := by
  refine A.d_places_of_double.pfn (k := 0) sc_places_of_double (by rintro _ _ ⟨rfl, _⟩; rfl) fun f cdv Ar outer sh Hh E hX ds d h => ?_
  have nd : ∀ i, (XB T N_places_of_double "places_of_double" s_places_of_double f cdv Ar outer sh Hh E i).N.Nodup := fun _ => sc_places_of_double.nd
  obtain ⟨rfl, rfl⟩ := h
  have h1 : Sm 200 (1 : Int) := Sm.k (by decide)
  refine jss_next (js_asg (je_var 0) (jg_tup hX (jgs_next (jg_name 1 nd rfl) (jgs_next (jg_name 2 nd rfl) (jgs_next (jg_name 3 nd rfl) (jgs_nil rfl)))))) ?_
  refine JSs.norm (ρ2 := ?r2) ?e2 ?h2
  case e2 => dsimp only [startE, startC, N_places_of_double, nTail, nSet0, nSetS, nMap, nMap0, nLen, nLen0, Nat.reduceAdd, Nat.reduceSub, nRep, nRep0, nApp, nApp0]; exact rfl
  refine jss_next (js_if (jt_eqI (je_var 1) je_int) (fun h => absurd h (by decide)) (fun _ => jss_nil rfl)) ?_
  refine jss_next (js_set 4 (je_sub (je_mul (JI.v 2) (JI.v 2)) (je_mul (JI.mul (JI.int 2) (JI.v 1)) (JI.v 3))) rfl nd) ?_
  refine JSs.norm (ρ2 := ?r3) ?e3 ?h3
  case e3 => dsimp only [startE, startC, N_places_of_double, nTail, nSet0, nSetS, nMap, nMap0, nLen, nLen0, Nat.reduceAdd, Nat.reduceSub, nRep, nRep0, nApp, nApp0]; exact rfl
  refine jss_stop (js_if (jt_W (jw_orT ((jt_lt (je_var 4) je_int).eq (by decide)) (pwx _))) (fun _ => jss_one (js_ret (je_lst ja_nil) rfl)) (fun h => nomatch h))
/-! ### the monic cubic's integer roots -/
def mon (u v w x : Int) : Int := ((x + u) * x + v) * x + w
def bisF (u v w : Int) : Nat → Int → Int → Int
  | 0, lo, _ => lo
  | z + 1, lo, hi => if lo < hi then (if 0 ≤ 1 * mon u v w ((lo + hi) / 2) then bisF u v w z lo ((lo + hi) / 2) else bisF u v w z ((lo + hi) / 2 + 1) hi) else lo
def rtsL (u v w lo hi : Int) : List Int := if mon u v w (bisF u v w (hi - lo).toNat lo hi) = 0 then [bisF u v w (hi - lo).toNat lo hi] else []
theorem ok_monic_at {T : Tx} (A : Al T) : PFn T "monic_at" 1 (fun ds r => ∃ u v w x : Int, ds = [.tup [.int u, .int v, .int w], .int x] ∧ Sm 200 u ∧ Sm 200 v ∧ Sm 200 w ∧ Sm 200 x ∧ r = .int (mon u v w x)) := by
  refine A.d_monic_at.pfn (k := 0) sc_monic_at (by rintro _ _ ⟨_, _, _, _, rfl, _⟩; rfl) fun f cdv Ar outer sh Hh E hX ds d h => ?_
  have nd : ∀ i, (XB T N_monic_at "monic_at" s_monic_at f cdv Ar outer sh Hh E i).N.Nodup := fun _ => sc_monic_at.nd
  obtain ⟨u, v, w, x, rfl, hu, hv, hw, hx, rfl⟩ := h
  refine jss_next (js_asg (je_var 0) (jg_tup hX (jgs_next (jg_name 2 nd rfl) (jgs_next (jg_name 3 nd rfl) (jgs_next (jg_name 4 nd rfl) (jgs_nil rfl)))))) ?_
  refine JSs.norm (ρ2 := ?r4) ?e4 ?h4
  case e4 => dsimp only [startE, startC, N_monic_at, nTail, nSet0, nSetS, nMap, nMap0, nLen, nLen0, Nat.reduceAdd, Nat.reduceSub, nRep, nRep0, nApp, nApp0]; exact rfl
  exact jss_one (js_ret (je_add (je_mul (JI.add (JI.mul (JI.add (JI.v 1) (JI.v 2)) (JI.v 1)) (JI.v 3)) (JI.v 1)) (je_var 4)) rfl)
theorem ok_bisected {T : Tx} (A : Al T) : PFn T "bisected" 2 (fun ds r => ∃ u v w lo hi : Int, ds = [.tup [.int u, .int v, .int w], .int lo, .int hi, .int 1] ∧ lo ≤ hi ∧ lo.natAbs < 2 ^ 199 ∧ hi.natAbs < 2 ^ 199 ∧ Sm 200 u ∧ Sm 200 v ∧ Sm 200 w ∧ r = .lst ((rtsL u v w lo hi).map .int)) := by
  refine A.d_bisected.pfn (k := 1) sc_bisected (by rintro _ _ ⟨_, _, _, _, _, rfl, _⟩; rfl) fun f cdv Ar outer sh Hh E hX ds d h => ?_
  have nd : ∀ i, (XB T N_bisected "bisected" s_bisected f cdv Ar outer sh Hh E i).N.Nodup := fun _ => sc_bisected.nd
  obtain ⟨u, v, w, lo0, hi0, rfl, hl, hlo, hhi, hu, hv, hw, rfl⟩ := h
  have h1 : Sm 200 (1 : Int) := Sm.k (by decide)
  refine jss_cons (Ψ := fun ρ' => ∃ x hi m, ρ' = [some (.d (.tup [.int u, .int v, .int w])), some (.d (.int x)), some (.d (.int hi)), some (.d (.int 1)), m] ∧ x = bisF u v w (hi0 - lo0).toNat lo0 hi0 ∧ x = hi ∧ x.natAbs < 2 ^ 199) (js_while (fun _ => noPass) (fun z ρ' => ∃ (lo hi : Int) (m : Option Sl), ρ' = [some (.d (.tup [.int u, .int v, .int w])), some (.d (.int lo)), some (.d (.int hi)), some (.d (.int 1)), m] ∧ lo0 ≤ lo ∧ lo ≤ hi ∧ hi ≤ hi0 ∧ (hi - lo).toNat ≤ z ∧ bisF u v w z lo hi = bisF u v w (hi0 - lo0).toNat lo0 hi0) (hi0 - lo0).toNat ⟨lo0, hi0, none, rfl, Int.le_refl _, hl, Int.le_refl _, Nat.le_refl _, rfl⟩ ?_) ?_
  · rintro z ρ' ⟨lo, hi, m, rfl, g1, g2, g3, g4, g5⟩
    refine ⟨_, (jt_lt (je_var 1) (je_var 2)), fun h => ?_, fun h => ?_⟩
    · have h : lo < hi := of_decide_eq_true h
      match z, g4, g5 with
      | 0, g4, _ => omega
      | z + 1, g4, g5 =>
      rw [bisF, if_pos h] at g5
      have hm : Sm 200 ((lo + hi) / 2) := Sm.k (by omega)
      have hmo : Sm 9000 (mon u v w ((lo + hi) / 2)) := by
        unfold mon
        exact Sm.mono (by repeat first | assumption | exact Sm.lit | apply Sm.add | apply Sm.sub | apply Sm.mul | apply Sm.neg) (by decide)
      refine jss_next (js_set 4 (je_div (je_add (je_var 1) (je_var 2)) (JI.int 1) (by first | decide | assumption | omega)) rfl nd) ?_
      refine JSs.norm (ρ2 := ?r5) ?e5 ?h5
      case e5 => dsimp only [startE, startC, N_bisected, nTail, nSet0, nSetS, nMap, nMap0, nLen, nLen0, Nat.reduceAdd, Nat.reduceSub, nRep, nRep0, nApp, nApp0]; exact rfl
      refine jss_one (js_if (jt_ge (je_mul (JI.v 3) (JI.x (je_call hX (ok_monic_at A) (ja_cons (je_var 0) (ja_cons (je_var 4) ja_nil)) ⟨_, _, _, _, rfl, hu, hv, hw, hm, rfl⟩) (by assumption))) je_int) (fun h2 => ?_) (fun h2 => ?_))
      · rw [if_pos (of_decide_eq_true h2)] at g5
        exact jss_one (js_set 2 (je_var 4) ⟨z, Nat.lt_succ_self _, lo, _, _, rfl, g1, by omega, by omega, by omega, g5⟩ nd)
      · rw [if_neg (of_decide_eq_false h2)] at g5
        exact jss_one (js_set 1 (je_add (je_var 4) je_int) ⟨z, Nat.lt_succ_self _, _, hi, _, rfl, by omega, by omega, by omega, by omega, g5⟩ nd)
    · have h : ¬ lo < hi := of_decide_eq_false h
      refine ⟨lo, hi, m, rfl, ?_, by omega, by omega⟩
      rw [← g5]
      cases z with
      | zero => rfl
      | succ z => rw [bisF, if_neg h]
  · rintro ρ' ⟨x, hi, m, rfl, hx, rfl, hb⟩
    have sx : Sm 200 x := Sm.k (by omega)
    refine jss_one (js_ret (je_if (jt_W (jw_and (jt_eqI (je_var 1) (je_var 2)) (jw_and1 (jt_eqI (je_call hX (ok_monic_at A) (ja_cons (je_var 0) (ja_cons (je_var 1) ja_nil)) ⟨_, _, _, _, rfl, hu, hv, hw, sx, rfl⟩) je_int)))) (je_lst (ja_cons (je_var 1) ja_nil)) (je_lst ja_nil)) ?_)
    show Sl.d (cond (decide (x = x) && decide (mon u v w x = 0)) (D.lst [.int x]) (D.lst [])) = _
    unfold rtsL
    rw [← hx, decide_eq_true (rfl : x = x), Bool.true_and]
    by_cases h0 : mon u v w x = 0
    · rw [decide_eq_true h0, if_pos h0]; rfl
    · rw [decide_eq_false h0, if_neg h0]; rfl
def mostI (u v w : Int) : Int := 2 + max3 (if u < 0 then -u else u) (if v < 0 then -v else v) (if w < 0 then -w else w)
theorem ok_monic_roots {T : Tx} (A : Al T) : PFn T "monic_roots" 3 (fun ds r => ∃ u v w : Int, ds = [.tup [.int u, .int v, .int w]] ∧ u.natAbs < 2 ^ 190 ∧ v.natAbs < 2 ^ 190 ∧ w.natAbs < 2 ^ 190 ∧ u * u - 3 * v ≤ 0 ∧ r = .lst ((rtsL u v w (-mostI u v w) (mostI u v w)).map .int)) := by
  refine A.d_monic_roots.pfn (k := 2) sc_monic_roots (by rintro _ _ ⟨_, _, _, rfl, _⟩; rfl) fun f cdv Ar outer sh Hh E hX ds d h => ?_
  have nd : ∀ i, (XB T N_monic_roots "monic_roots" s_monic_roots f cdv Ar outer sh Hh E i).N.Nodup := fun _ => sc_monic_roots.nd
  obtain ⟨u, v, w, rfl, hu, hv, hw, hp, rfl⟩ := h
  have su : Sm 200 u := Sm.k (by omega)
  have sv : Sm 200 v := Sm.k (by omega)
  have sw : Sm 200 w := Sm.k (by omega)
  have hM : 2 ≤ mostI u v w ∧ (mostI u v w).natAbs < 2 ^ 199 := by
    unfold mostI max3
    repeat' split
    all_goals omega
  refine jss_next (js_asg (je_var 0) (jg_tup hX (jgs_next (jg_name 1 nd rfl) (jgs_next (jg_name 2 nd rfl) (jgs_next (jg_name 3 nd rfl) (jgs_nil rfl)))))) ?_
  refine JSs.norm (ρ2 := ?r6) ?e6 ?h6
  case e6 => dsimp only [startE, startC, N_monic_roots, nTail, nSet0, nSetS, nMap, nMap0, nLen, nLen0, Nat.reduceAdd, Nat.reduceSub, nRep, nRep0, nApp, nApp0]; exact rfl
  refine jss_next (js_par (i1 := 4) (i2 := 5) hX nd (ja_cons (je_add je_int (je_max3 hX A.b_max (ja_cons (je_abs hX A.b_abs (je_var 1)) (ja_cons (je_abs hX A.b_abs (je_var 2)) (ja_cons (je_abs hX A.b_abs (je_var 3)) ja_nil))))) (ja_cons (je_sub (je_mul (JI.v 1) (JI.v 1)) (je_mul (JI.int 1) (JI.v 2))) ja_nil)) rfl) ?_
  refine JSs.norm (ρ2 := ?r7) ?e7 ?h7
  case e7 => dsimp only [startE, startC, N_monic_roots, nTail, nSet0, nSetS, nMap, nMap0, nLen, nLen0, Nat.reduceAdd, Nat.reduceSub, nRep, nRep0, nApp, nApp0]; exact rfl
  refine jss_stop (js_if (jt_le (je_var 5) je_int) (fun _ => ?_) (fun h => absurd hp (of_decide_eq_false h)))
  exact jss_one (js_ret (je_call hX (ok_bisected A) (ja_cons (je_var 0) (ja_cons (je_neg (je_var 4)) (ja_cons (je_var 4) (ja_cons je_int ja_nil)))) ⟨_, _, _, _, _, rfl, by omega, by omega, hM.2, su, sv, sw, rfl⟩) rfl)
inductive PlC : Fo → List (Int × Int) → Prop
  | no {f : Fo} (ha : f.a ≠ 0) (hp : f.b * f.b - 3 * (f.a * f.c) ≤ 0) (h : ∀ x, mon f.b (f.a * f.c) (f.a * f.a * f.d) x ≠ 0) (h1 : f.b.natAbs < 2 ^ 190) (h2 : (f.a * f.c).natAbs < 2 ^ 190) (h3 : (f.a * f.a * f.d).natAbs < 2 ^ 190) (hs : SmF f) : PlC f []
  | one : PlC ⟨1, 0, 0, 1⟩ [(-1, 1)]
  | two : PlC ⟨3, 6, 4, 1⟩ [(-1, 1)]
  | end_ : PlC ⟨0, 1, 1, 1⟩ [(1, 0)]
theorem plC_le {f : Fo} {l : List (Int × Int)} (h : PlC f l) : l = [] ∨ ∃ z, l = [z] := by
  cases h
  · exact .inl rfl
  · exact .inr ⟨_, rfl⟩
  · exact .inr ⟨_, rfl⟩
  · exact .inr ⟨_, rfl⟩
theorem rts_none {u v w lo hi : Int} (h : ∀ x, mon u v w x ≠ 0) : rtsL u v w lo hi = [] := if_neg (h _)
theorem prD_shape {l : List (Int × Int)} (h : l = [] ∨ ∃ z, l = [z]) : l.map prD = [] ∨ ∃ z, l.map prD = [prD z] := by
  rcases h with rfl | ⟨z, rfl⟩
  · exact .inl rfl
  · exact .inr ⟨z, rfl⟩
theorem ok_places_of_cubic {T : Tx} (A : Al T) : PFn T "places_of_cubic" 4 (fun ds r => ∃ (fo : Fo) (l : List (Int × Int)), ds = [dF fo] ∧ PlC fo l ∧ r = .tup (l.map prD)) := by
  refine A.d_places_of_cubic.pfn (k := 3) sc_places_of_cubic (by rintro _ _ ⟨_, _, rfl, _⟩; rfl) fun f cdv Ar outer sh Hh E hX ds d h => ?_
  have nd : ∀ i, (XB T N_places_of_cubic "places_of_cubic" s_places_of_cubic f cdv Ar outer sh Hh E i).N.Nodup := fun _ => sc_places_of_cubic.nd
  obtain ⟨fo, l, rfl, hp, rfl⟩ := h
  have hle := prD_shape (plC_le hp)
  have z200 : ∀ {i : Int}, i.natAbs < 2 ^ 201 → Sm 200 i := fun h => Sm.k h
  refine jss_next (js_asg (je_var 0) (jg_tup hX (jgs_next (jg_name 1 nd rfl) (jgs_next (jg_name 2 nd rfl) (jgs_next (jg_name 3 nd rfl) (jgs_next (jg_name 4 nd rfl) (jgs_nil rfl))))))) ?_
  refine JSs.norm (ρ2 := ?r8) ?e8 ?h8
  case e8 => dsimp only [startE, startC, N_places_of_cubic, nTail, nSet0, nSetS, nMap, nMap0, nLen, nLen0, Nat.reduceAdd, Nat.reduceSub, nRep, nRep0, nApp, nApp0]; exact rfl
  refine jss_cons (Ψ := fun ρ' => ρ' = [some (.d (dF fo)), some (.d (.int fo.a)), some (.d (.int fo.b)), some (.d (.int fo.c)), some (.d (.int fo.d)), some (.d (.lst (l.map prD))), none, none]) ?_ ?_
  · have branch : ∀ (fo : Fo) (l : List (Int × Int)) (rs : List Int), fo.a ≠ 0 → SmF fo → fo.b.natAbs < 2 ^ 190 → (fo.a * fo.c).natAbs < 2 ^ 190 → (fo.a * fo.a * fo.d).natAbs < 2 ^ 190 → fo.b * fo.b - 3 * (fo.a * fo.c) ≤ 0 →
        rtsL fo.b (fo.a * fo.c) (fo.a * fo.a * fo.d) (-mostI fo.b (fo.a * fo.c) (fo.a * fo.a * fo.d)) (mostI fo.b (fo.a * fo.c) (fo.a * fo.a * fo.d)) = rs → (rs = [] ∨ (0 < fo.a ∧ Sm 190 fo.a)) → l = rs.map (fun x : Int => (x / (Nat.gcd x.natAbs fo.a.natAbs : Nat), fo.a / (Nat.gcd x.natAbs fo.a.natAbs : Nat))) → rs.length ≤ 1 →
        JS T (XB T N_places_of_cubic "places_of_cubic" s_places_of_cubic f cdv Ar outer sh Hh E) noM [some (.d (dF fo)), some (.d (.int fo.a)), some (.d (.int fo.b)), some (.d (.int fo.c)), some (.d (.int fo.d)), none, none, none] (match defBody s_places_of_cubic with | [_, x, _] => x | _ => .Pass ⟨0, 0, 0, 0⟩)
          { nx := fun ρ' => ρ' = [some (.d (dF fo)), some (.d (.int fo.a)), some (.d (.int fo.b)), some (.d (.int fo.c)), some (.d (.int fo.d)), some (.d (.lst (l.map prD))), none, none], rt := fun _ _ => False } := by
      intro fo l rs ha hs h1 h2 h3 h4 hrs hpos hl hlen
      obtain ⟨sa, sb, sc, sd⟩ := hs
      refine js_if (jt_neI (je_var 1) je_int) (fun _ => ?_) (fun h => absurd h (by simp [ha]))
      refine jss_one (js_setLcL (src := rs.map .int) 5 6 (fun d => match d with | .int x => prD (x / (Nat.gcd x.natAbs fo.a.natAbs : Nat), fo.a / (Nat.gcd x.natAbs fo.a.natAbs : Nat)) | _ => d) hX nd (jit_list hX (JE.eq (je_call hX (ok_monic_roots A) (ja_cons (je_tup (ja_cons (je_var 2) (ja_cons (je_mul (JI.v 1) (JI.v 3)) (ja_cons (je_mul (JI.mul (JI.v 1) (JI.v 1)) (JI.v 4)) ja_nil)))) ja_nil) ⟨_, _, _, rfl, h1, h2, h3, h4, rfl⟩) (by rw [hrs]))) (hl := by rw [List.length_map]; omega) (e := by rw [hl, List.map_map, List.map_map]; rfl) (he := fun d hd => ?_) (q := rfl) (ok := fun _ => blkOk_by rfl))
      obtain ⟨x, hx, rfl⟩ := List.mem_map.mp hd
      rcases hpos with rfl | ⟨p1, p2⟩
      · simp at hx
      · exact je_call (hX.blk _) (ok_lowest_place A) (ja_cons (je_var 6) (ja_cons (je_var 1) ja_nil)) ⟨_, _, rfl, p1, p2, rfl⟩
    cases hp with
    | no ha hpp h h1 h2 h3 hs => exact (branch fo [] [] ha hs h1 h2 h3 hpp (rts_none h) (.inl rfl) rfl (by decide)).mono (fun _ h => h) (fun _ _ h => h.elim) (fun _ h => h) (fun _ h => h)
    | one => exact (branch ⟨1, 0, 0, 1⟩ _ [-1] (by decide) ⟨z200 (by decide), z200 (by decide), z200 (by decide), z200 (by decide)⟩ (by decide) (by decide) (by decide) (by decide) (by decide +kernel) (.inr ⟨by decide, by unfold Sm; decide⟩) (by decide +kernel) (by decide)).mono (fun _ h => h) (fun _ _ h => h.elim) (fun _ h => h) (fun _ h => h)
    | two => exact (branch ⟨3, 6, 4, 1⟩ _ [-3] (by decide) ⟨z200 (by decide), z200 (by decide), z200 (by decide), z200 (by decide)⟩ (by decide) (by decide) (by decide) (by decide) (by decide +kernel) (.inr ⟨by decide, by unfold Sm; decide⟩) (by decide +kernel) (by decide)).mono (fun _ h => h) (fun _ _ h => h.elim) (fun _ h => h) (fun _ h => h)
    | end_ =>
      refine js_if (jt_neI (je_var 1) je_int) (fun h => absurd h (by decide)) (fun _ => ?_)
      exact jss_one (js_set 5 (je_lst (ja_cons (je_glob hX A.c_END_lines) (ja_star hX (je_ifT ((jt_neD hX (je_tup (ja_cons (je_var 2) (ja_cons (je_var 3) (ja_cons (je_var 4) ja_nil)))) (je_tup (ja_cons je_int (ja_cons je_int (ja_cons je_int ja_nil))))).eq (by decide +kernel)) (je_call hX (ok_places_of_double A) (ja_cons (je_tup (ja_cons (je_var 2) (ja_cons (je_var 3) (ja_cons (je_var 4) ja_nil)))) ja_nil) ⟨rfl, rfl⟩) (pex _)) ja_nil))) rfl nd)
  · rintro ρ' rfl
    exact jss_one (js_ret (je_tupleL hX A.b_tuple (je_sortDc (d' := .bl true) 7 hX A.b_sorted nd (jit_list hX (je_var 5)) hle (fun d hd => je_var 7) (fun d hd => je_bl) (fun _ => blkOk_by rfl))) rfl)
end Fr
namespace Fr
open PySem PySem.Spec PyProof.Rows L2 StX
/-! ### the walk -/
def idM : Ma := ⟨1, 0, 0, 1⟩
theorem mk_Walk {T : Tx} (A : Al T) : MkW T "Walk" 1 (fun d ch nu => ∃ f : Fo, d = dF f ∧ ch = dMa idM ∧ nu = dF f) := by
  obtain ⟨f, fd, F, M, hb⟩ := A.m_Walk_init
  refine mkw_mk (k := 0) F sc_Walk_init M hb A.g_Walk A.wk rfl fun cdv Ar outer sh Hh E self hX d ch nu h => ?_
  obtain ⟨fo, rfl, rfl, rfl⟩ := h
  exact ⟨je_tupleT hX A.b_tuple (je_var 1), je_glob hX A.c_IDLE⟩
def PreS (c : Sl) (ds : List D) : Prop := ∃ w dx m f mm, c = .cw w dx (dMa m) (dF f) ∧ ds = [dMa mm] ∧ SmF f ∧ SmM m ∧ SmM mm
def PoS (c : Sl) (ds : List D) (d : D) (c' : Sl) : Prop := ∃ w dx m f mm, c = .cw w dx (dMa m) (dF f) ∧ ds = [dMa mm] ∧ d = .non ∧ c' = .cw w dx (dMa (Ma.join m mm)) (dF (Fo.led f mm))
theorem ok_step {T : Tx} (A : Al T) : WFn T "step" 3 PreS PoS := by
  obtain ⟨g, fd, F, hM, hb⟩ := A.m_step
  refine ⟨g, hM, ((fn_mkC (Pre := PreS) (Po := PoS) (n0 := "self") (N := ["change"]) (k := 2) F sc_Walk_step (by rintro _ _ ⟨_, _, _, _, _, _, rfl, _⟩; rfl) (by rintro _ _ _ _ ⟨_, _, _, _, _, rfl, _, _, rfl⟩; exact ⟨rfl, rfl⟩) fun cdv Ar outer sh Hh E hX c ds h => ?_).raw hb .nil).imp fun vs H Q E h => by rw [List.append_nil]; exact h⟩
  obtain ⟨w, dx, m, fo, mm, rfl, rfl, hf, hm, hmm⟩ := h
  refine jss_next (js_cwNu 0 hX A.wk (je_call hX (ok_form_led A) (ja_cons (je_cwNu 0 hX A.wk) (ja_cons (je_var 1) ja_nil)) ⟨_, _, rfl, hf, hmm, rfl⟩) (fun _ h => h) rfl rfl rfl) ?_
  exact jss_one (js_cwCh 0 hX A.wk (je_call hX (ok_joined_in A) (ja_cons (je_cwCh 0 hX A.wk) (ja_cons (je_var 1) ja_nil)) ⟨_, _, rfl, hm, hmm, rfl⟩) (fun _ h => h) rfl rfl ⟨_, rfl, w, dx, m, fo, mm, rfl, rfl, rfl, rfl⟩)
section
variable {T : Tx} {ι : Type} {X : ι → Cx} {m0 : Hid} {ρ : En} {k : Nat} {e : Expr} {pos : Pos} {Φ : Pst}
theorem js_step {x' : Str} {p2 apos cpos : Pos} {w dx : Addr} {m mm : Ma} {f : Fo} {pl : ι → Sem Bool} (j : Nat) (A : Al T) (hX : Fam T k X) (he : JE T X ρ e (dMa mm)) (hf : SmF f) (hm : SmM m) (hmm : SmM mm) (ho : ∀ a, two w dx a → m0 a) (hr : ρ[j]? = some (some (.cw w dx (dMa m) (dF f)))) (hpl : plainE (ρ.set j none) = true) (q : Φ.nx (ρ.set j (some (.cw w dx (dMa (m.join mm)) (dF (f.led mm)))))) (hj : 3 ≤ k := by decide)
    (hN : ∀ i, (X i).N[j]? = some x' := by intro _; rfl) (hv : ∀ i, Vis (X i).env.scope x' := by first | exact fun _ => Or.inl rfl | exact fun _ => Or.inr (Or.inl rfl) | exact fun _ => Or.inr (Or.inr rfl)) (hdb' : (x' == ("__debug__" : Str)) = false := by decide) (hcd : (x' == ("__classdict__" : Str)) = false := by decide)
    (hs : ∀ i, starEach [e] (X i).env = (false, eval e (X i).env) :: starEach [] (X i).env := by intro _; rfl)
    (ht : ∀ i, eval (.Call (.Attribute (.Name x' p2) "step" apos) [e] [] cpos) (X i).env = (do
      let ov ← eval (.Name x' p2) (X i).env
      standAt apos.atName
      let (f, first) ← holding [ov] (getMethod ov "step" (pl i))
      callWith cpos f first (backTo cpos (starEach [e] (X i).env)) (backToKw cpos (keywordEach [] (X i).env))) := by intro _; rfl)
    (hsw : ∀ i, swapsWith (.Call (.Attribute (.Name x' p2) "step" apos) [e] [] cpos) none pos.line (X i).env = pure false := by intro _; rfl) :
    JS T X m0 ρ (.Expr (.Call (.Attribute (.Name x' p2) "step" apos) [e] [] cpos) pos) Φ :=
  js_exprM (jm_methC (pl := pl) (Ψ := fun _ ρ' => ρ' = ρ.set j (some (.cw w dx (dMa (m.join mm)) (dF (f.led mm))))) j hX A.wk (ok_step A) (ja_cons he ja_nil hs) ⟨w, dx, m, f, mm, rfl, rfl, hf, hm, hmm⟩ ho hr hpl (fun d c' h => by
    obtain ⟨w', dx', m', f', mm', h1, h2, rfl, rfl⟩ := h
    injection h1 with e1 e2 e3 e4
    subst e1 e2
    have em : m = m' := by cases m; cases m'; simp [dMa, dM, dP] at e3; simp [e3]
    have ef : f = f' := by cases f; cases f'; simp [dF, dI4] at e4; simp [e4]
    have emm : mm = mm' := by
      cases mm; cases mm'
      simp [dMa, dM, dP] at h2
      simp [h2]
    subst em ef emm
    rfl) hj hN hv hdb' hcd hs (fun _ => rfl) ht) (fun d ρ' h => by rw [h]; exact q) hsw
/-- [elt for x, y in src] -/
theorem je_lcP {iter : Expr} {scope : Scope} {x1 x2 : Str} {p1 p2 pt : Pos} {kk : Nat} (j1 j2 : Nat) {src : List (D × D)} (f : D × D → D) (hX : Fam T k X) (hN : ∀ i, (X i).N.Nodup) (hij : j1 ≠ j2)
    (hi : JIt T X ρ (.Tuple [.Name x1 p1, .Name x2 p2] kk pt) iter (src.map fun z => .tup [z.1, z.2])) (hl : src.length ≤ 1000000)
    (he : ∀ z ∈ src, JE T (blkF X scope) ((ρ.set j1 (some (.d z.1))).set j2 (some (.d z.2))) e (f z)) (ok : ∀ i, BlkOk (X i).N (X i).env.scope scope [(x1, j1), (x2, j2)]) (hj1 : ∀ i, (X i).N[j1]? = some x1 := by intro _; rfl) (hj2 : ∀ i, (X i).N[j2]? = some x2 := by intro _; rfl)
    (hx1 : ∀ i, L2.Loc (blkF X scope i).env.scope x1 := by first | exact fun _ => Or.inl rfl | exact fun _ => Or.inr rfl) (hf1 : ∀ i, (blkF X scope i).fn x1 = true ∨ (blkF X scope i).env.scope.names.lookup x1 = some .local := by first | exact fun _ => .inr rfl | exact fun _ => .inl rfl)
    (hx2 : ∀ i, L2.Loc (blkF X scope i).env.scope x2 := by first | exact fun _ => Or.inl rfl | exact fun _ => Or.inr rfl) (hf2 : ∀ i, (blkF X scope i).fn x2 = true ∨ (blkF X scope i).env.scope.names.lookup x2 = some .local := by first | exact fun _ => .inr rfl | exact fun _ => .inl rfl)
    (hn : ∀ i, (assignEach [.Name x1 p1, .Name x2 p2] (blkF X scope i).env).length = 2 := by intro _; rfl) (hst : ∀ i, (assignEach [.Name x1 p1, .Name x2 p2] (blkF X scope i).env).findIdx? (·.1) = none := by intro _; rfl)
    (hs : ∀ i x, foldedSetIterable iter (X i).env x = pure x := by intro _ _; rfl) :
    JE T X ρ (.ListComp e [⟨.Tuple [.Name x1 p1, .Name x2 p2] kk pt, iter, [], 0⟩] scope pos) (.lst (src.map f)) := by
  let fr : D → En := fun d => match d with | .tup [a, b] => (ρ.set j1 (some (.d a))).set j2 (some (.d b)) | _ => ρ
  let ff : D → D := fun d => match d with | .tup [a, b] => f (a, b) | _ => d
  have key := je_lcW (elt := e) (pos := pos) (own := [(x1, j1), (x2, j2)]) (g := gTup T.K 2 (gCons (gName j1) (gCons (gName j2) gNil))) (fr := fr) (t := fun _ => true) (f := ff) hX hN ok hi (by rw [List.length_map]; exact hl)
    (fun i => by
      rw [← hX.K i.1]
      exact pg_tup (hX.calm i.1) (pgs_cons (pg_name (hN i.1) (hj1 i.1) (hx1 i) (hf1 i)) (pgs_cons (pg_name (hN i.1) (hj2 i.1) (hx2 i) (hf2 i)) pgs_nil rfl) rfl) (hn i) (hst i))
    (fun d hd => by
      obtain ⟨z, _, rfl⟩ := List.mem_map.mp hd
      exact lcg_pair hij) (.inl ⟨rfl, fun _ _ => rfl⟩) (fun d hd _ => by
      obtain ⟨z, hz, rfl⟩ := List.mem_map.mp hd
      exact he z hz) hs
  rw [List.filter_eq_self.mpr (fun _ _ => rfl), List.map_map] at key
  exact key
end
end Fr
namespace Fr
open PySem PySem.Spec PyProof.Rows L2 StX
theorem s200 {i : Int} (h : i.natAbs < 2 ^ 201) : Sm 200 i := h
def dT (x y z : Int) : D := .tup [.int x, .int y, .int z]
theorem ok_bezout {T : Tx} (A : Al T) : PFn T "bezout" 1 (fun ds r => (ds = [.int (-1), .int 1] ∧ r = dP (-1) 0) ∨ (ds = [.int 1, .int 0] ∧ r = dP 0 1)) := by
  refine A.d_bezout.pfn (k := 0) sc_bezout (by rintro _ _ (⟨rfl, _⟩ | ⟨rfl, _⟩) <;> rfl) fun f cdv Ar outer sh Hh E hX ds d h => ?_
  have nd : ∀ i, (XB T N_bezout "bezout" s_bezout f cdv Ar outer sh Hh E i).N.Nodup := fun _ => sc_bezout.nd
  rcases h with ⟨rfl, rfl⟩ | ⟨rfl, rfl⟩
  · refine jss_next (js_par (i1 := 2) (i2 := 3) hX nd (ja_cons (je_tup (ja_cons (je_var 0) (ja_cons je_int (ja_cons je_int ja_nil)))) (ja_cons (je_tup (ja_cons (je_var 1) (ja_cons je_int (ja_cons je_int ja_nil)))) ja_nil)) rfl) ?_
    refine JSs.norm (ρ2 := ?r1) ?e1 ?h1
    case e1 => dsimp only [startE, startC, N_bezout, nTail, nSet0, nSetS, nMap, nMap0, nLen, nLen0, Nat.reduceAdd, Nat.reduceSub, nRep, nRep0, nApp, nApp0]; exact rfl
    refine jss_cons (Ψ := fun ρ' => ∃ x, ρ' = [some (.d (.int (-1))), some (.d (.int 1)), some (.d (dT 1 0 1)), some (.d (dT 0 1 1)), x, none, none]) (js_while (fun _ => noPass) (fun z ρ' => (z = 1 ∧ ρ' = [some (.d (.int (-1))), some (.d (.int 1)), some (.d (dT (-1) 1 0)), some (.d (dT 1 0 1)), none, none, none]) ∨ (z = 0 ∧ ∃ x, ρ' = [some (.d (.int (-1))), some (.d (.int 1)), some (.d (dT 1 0 1)), some (.d (dT 0 1 1)), x, none, none])) 1 (.inl ⟨rfl, rfl⟩) ?_) ?_
    · rintro z ρ' (⟨rfl, rfl⟩ | ⟨rfl, x, rfl⟩)
      · refine ⟨_, (jt_neI (je_ix hX (je_var 3) je_int 0 rfl rfl) je_int), fun _ => ?_, fun h => absurd h (by decide)⟩
        have s1 : Sm 200 (1 : Int) := s200 (by decide)
        have t1 : Sm 200 (-1 : Int) := s200 (by decide)
        refine jss_next (js_set 4 (JE.eq (je_div (je_ix hX (je_var 2) je_int 0 rfl rfl) (JI.of (je_ix hX (je_var 3) je_int 0 rfl rfl) s1) (by decide)) (show D.int (-1 / 1) = D.int (-1) from rfl)) rfl nd) ?_
        refine JSs.norm (ρ2 := ?r2) ?e2 ?h2
        case e2 => dsimp only [startE, startC, N_bezout, nTail, nSet0, nSetS, nMap, nMap0, nLen, nLen0, Nat.reduceAdd, Nat.reduceSub, nRep, nRep0, nApp, nApp0]; exact rfl
        have hz : ∀ z ∈ [(D.int (-1), D.int 1), (D.int 1, D.int 0), (D.int 0, D.int 1)], ∃ a b : Int, z = (D.int a, D.int b) ∧ Sm 200 b := fun z hz => by
          simp only [List.mem_cons, List.not_mem_nil, or_false] at hz
          rcases hz with rfl | rfl | rfl
          · exact ⟨_, _, rfl, s1⟩
          · exact ⟨_, _, rfl, s200 (by decide)⟩
          · exact ⟨_, _, rfl, s1⟩
        refine jss_one (js_par (i1 := 2) (i2 := 3) (u := dT 1 0 1) (v := dT 0 1 1) hX nd (ja_cons (je_var 3) (ja_cons (je_tupleL hX A.b_tuple (JE.eq (je_lcP (src := [(.int (-1), .int 1), (.int 1, .int 0), (.int 0, .int 1)]) 5 6 (fun z => match z with | (.int a, .int b) => .int (a - -1 * b) | _ => .non) hX nd (by decide) (jit_zip (l1 := [.int (-1), .int 1, .int 0]) (l2 := [.int 1, .int 0, .int 1]) hX A.b_zip (ja_cons (je_var 2) (ja_cons (je_var 3) ja_nil)) rfl) (by decide) (fun z hz' => ?_) (fun _ => blkOk_by rfl)) rfl)) ja_nil)) ⟨0, Nat.one_pos, .inr ⟨rfl, _, rfl⟩⟩)
        obtain ⟨a, b, rfl, hb⟩ := hz z hz'
        exact je_sub (je_var 5) (je_mul (JI.v 4) (JI.v 6))
      · exact ⟨_, (jt_neI (je_ix hX (je_var 3) je_int 0 rfl rfl) je_int), fun h => absurd h (by decide), fun _ => ⟨x, rfl⟩⟩
    · rintro ρ' ⟨x, rfl⟩
      exact jss_one (js_ret (je_ifT ((jt_gt (je_ix hX (je_var 2) je_int 0 rfl rfl) je_int).eq (by decide)) (je_tup (ja_cons (je_neg (je_ix hX (je_var 2) je_int 2 rfl rfl)) (ja_cons (je_ix hX (je_var 2) je_int 1 rfl rfl) ja_nil))) (pex _)) rfl)
  · refine jss_next (js_par (i1 := 2) (i2 := 3) hX nd (ja_cons (je_tup (ja_cons (je_var 0) (ja_cons je_int (ja_cons je_int ja_nil)))) (ja_cons (je_tup (ja_cons (je_var 1) (ja_cons je_int (ja_cons je_int ja_nil)))) ja_nil)) rfl) ?_
    refine JSs.norm (ρ2 := ?r3) ?e3 ?h3
    case e3 => dsimp only [startE, startC, N_bezout, nTail, nSet0, nSetS, nMap, nMap0, nLen, nLen0, Nat.reduceAdd, Nat.reduceSub, nRep, nRep0, nApp, nApp0]; exact rfl
    refine jss_cons (Ψ := fun ρ' => ρ' = [some (.d (.int 1)), some (.d (.int 0)), some (.d (dT 1 1 0)), some (.d (dT 0 0 1)), none, none, none]) (js_while (fun _ => noPass) (fun z ρ' => ρ' = [some (.d (.int 1)), some (.d (.int 0)), some (.d (dT 1 1 0)), some (.d (dT 0 0 1)), none, none, none]) 0 rfl ?_) ?_
    · rintro z ρ' rfl
      exact ⟨_, (jt_neI (je_ix hX (je_var 3) je_int 0 rfl rfl) je_int), fun h => absurd h (by decide), fun _ => rfl⟩
    · rintro ρ' rfl
      exact jss_one (js_ret (je_ifT ((jt_gt (je_ix hX (je_var 2) je_int 0 rfl rfl) je_int).eq (by decide)) (je_tup (ja_cons (je_neg (je_ix hX (je_var 2) je_int 2 rfl rfl)) (ja_cons (je_ix hX (je_var 2) je_int 1 rfl rfl) ja_nil))) (pex _)) rfl)
theorem ok_end_change {T : Tx} (A : Al T) : PFn T "end_change" 2 (fun ds r => (ds = [dP (-1) 1] ∧ r = dMa ⟨-1, 1, -1, 0⟩) ∨ (ds = [dP 1 0] ∧ r = dMa ⟨1, 0, 0, 1⟩)) := by
  refine A.d_end_change.pfn (k := 1) sc_end_change (by rintro _ _ (⟨rfl, _⟩ | ⟨rfl, _⟩) <;> rfl) fun f cdv Ar outer sh Hh E hX ds d h => ?_
  rcases h with ⟨rfl, rfl⟩ | ⟨rfl, rfl⟩
  · exact jss_one (js_ret (je_tup (ja_cons (je_var 0) (ja_cons (je_call hX (ok_bezout A) (ja_cons (je_ix hX (je_var 0) je_int 0 rfl rfl) (ja_cons (je_ix hX (je_var 0) je_int 1 rfl rfl) ja_nil)) (.inl ⟨rfl, rfl⟩)) ja_nil))) rfl)
  · exact jss_one (js_ret (je_tup (ja_cons (je_var 0) (ja_cons (je_call hX (ok_bezout A) (ja_cons (je_ix hX (je_var 0) je_int 0 rfl rfl) (ja_cons (je_ix hX (je_var 0) je_int 1 rfl rfl) ja_nil)) (.inr ⟨rfl, rfl⟩)) ja_nil))) rfl)
end Fr
namespace Fr
open PySem PySem.Spec PyProof.Rows L2 StX
theorem smM_k {p q r s : Int} (h : p.natAbs < 2 ^ 201 ∧ q.natAbs < 2 ^ 201 ∧ r.natAbs < 2 ^ 201 ∧ s.natAbs < 2 ^ 201 := by decide) : SmM ⟨p, q, r, s⟩ := ⟨h.1, h.2.1, h.2.2.1, h.2.2.2⟩
theorem smF_k {p q r s : Int} (h : p.natAbs < 2 ^ 201 ∧ q.natAbs < 2 ^ 201 ∧ r.natAbs < 2 ^ 201 ∧ s.natAbs < 2 ^ 201 := by decide) : SmF ⟨p, q, r, s⟩ := ⟨h.1, h.2.1, h.2.2.1, h.2.2.2⟩
inductive LwR : Fo → Ma → Fo → Ma → Prop
  | a : LwR ⟨3, 6, 4, 1⟩ ⟨-1, 1, 0, 0⟩ ⟨0, 1, 1, 1⟩ ⟨1, -1, 1, -2⟩
  | b : LwR ⟨0, 1, 1, 1⟩ ⟨1, 0, 0, 0⟩ ⟨0, 1, 1, 1⟩ ⟨1, 0, 0, 1⟩
def PreR (c : Sl) (ds : List D) : Prop := ∃ w dx f pl g m, c = .cw w dx (dMa idM) (dF f) ∧ ds = [dP pl.p pl.q] ∧ LwR f pl g m
def PoR (c : Sl) (ds : List D) (d : D) (c' : Sl) : Prop := ∃ w dx f pl g m, c = .cw w dx (dMa idM) (dF f) ∧ ds = [dP pl.p pl.q] ∧ LwR f pl g m ∧ d = .non ∧ c' = .cw w dx (dMa m) (dF g)
structure CDf (T : Tx) (x : Str) (k : Nat) (Pre : Sl → List D → Prop) (Po : Sl → List D → D → Sl → Prop) : Prop where
  ex : ∃ f fd ps, FnOk T.P T.w T.K T.mg T.base CX0 k f fd ps (SpC T Pre Po) ∧ T.mg x = some (.ref f) ∧ PySem.W.keepIn T.K (.ref f) = true ∧ Binds T.K fd ps []
theorem Df.cfn {T : Tx} {x : Str} {st : Stmt} {n0 : Str} {N ps : List Str} {k : Nat} {Pre : Sl → List D → Prop} {Po : Sl → List D → D → Sl → Prop} (F : Df T x st ps) (S : FnScope (n0 :: N) ps (defScope st)) (len : ∀ c ds, Pre c ds → ds.length + 1 = ps.length) (same : ∀ c ds d c', Po c ds d c' → sameC c c')
    (body : ∀ (f : Addr) (cdv : Value) (A : Around) (outer : List Env) (s : Shared) (H : Hp) (E : XK), Fam T k (XB T (n0 :: N) x st f cdv A outer s H E) → ∀ c ds, Pre c ds → JSs T (XB T (n0 :: N) x st f cdv A outer s H E) (hidOf c) (startC (n0 :: N) c ds) (defBody st)
      { nx := fun ρ' => ∃ c', ρ'[0]? = some (some c') ∧ Po c ds .non c', rt := fun x ρ' => ∃ d c', x = .d d ∧ ρ'[0]? = some (some c') ∧ Po c ds d c' }) : CFn T x (k + 1) Pre Po := by
  obtain ⟨f, fd, F, hm, hb⟩ := F.ex
  exact ⟨f, fd, ps, fn_mkC F S len same (body f), hm, F.kp, hb⟩
theorem ok_lead_with_root {T : Tx} (A : Al T) : CFn T "lead_with_root" 4 PreR PoR := by
  refine A.d_lead_with_root.cfn (n0 := "walk") (N := ["place", "b", "c", "shift"]) (k := 3) sc_lead_with_root (by rintro _ _ ⟨_, _, _, _, _, _, _, rfl, _⟩; rfl) (by rintro _ _ _ _ ⟨_, _, _, _, _, _, rfl, _, _, _, rfl⟩; exact ⟨rfl, rfl⟩) fun f cdv Ar outer sh Hh E hX c ds h => ?_
  have nd : ∀ i, (XB T N_lead_with_root "lead_with_root" s_lead_with_root f cdv Ar outer sh Hh E i).N.Nodup := fun _ => sc_lead_with_root.nd
  obtain ⟨w, dx, fo, pl, g, m, rfl, rfl, hl⟩ := h
  have hl' := hl
  have ho : ∀ a, two w dx a → hidOf (.cw w dx (dMa idM) (dF fo)) a := fun _ h => h
  cases hl with
  | a =>
    refine jss_cons (Ψ := fun ρ' => ρ' = [some (.cw w dx (dMa ⟨-1, 1, -1, 0⟩) (dF ⟨0, -1, -3, -3⟩)), some (.d (dP (-1) 1)), none, none, none]) (js_step (m := idM) (f := ⟨3, 6, 4, 1⟩) 0 A hX (je_call hX (ok_end_change A) (ja_cons (je_var 1) ja_nil) (.inl ⟨rfl, rfl⟩)) smF_k smM_k smM_k ho rfl rfl rfl) ?_
    rintro ρ' rfl
    refine jss_cons (Ψ := fun ρ' => ρ' = [some (.cw w dx (dMa ⟨1, -1, -1, 0⟩) (dF ⟨0, 1, -3, 3⟩)), some (.d (dP (-1) 1)), none, none, none]) (js_if ((jt_lt (je_ix hX (je_cwNu 0 hX A.wk) je_int 1 rfl rfl) je_int).eq (c' := true) (by decide)) (fun _ => jss_one (js_step (m := ⟨-1, 1, -1, 0⟩) (mm := ⟨-1, 0, 0, 1⟩) (f := ⟨0, -1, -3, -3⟩) 0 A hX (je_glob hX A.c_MIRROR_BACK) smF_k smM_k smM_k ho rfl rfl rfl)) (fun h => nomatch h)) ?_
    rintro ρ' rfl
    refine jss_next (js_par (i1 := 2) (i2 := 3) hX nd (ja_cons (je_ix hX (je_cwNu 0 hX A.wk) je_int 1 rfl rfl) (ja_cons (je_ix hX (je_cwNu 0 hX A.wk) je_int 2 rfl rfl) ja_nil)) rfl) ?_
    refine JSs.norm (ρ2 := ?r1) ?e1 ?h1
    case e1 => dsimp only [startE, startC, N_lead_with_root, nTail, nSet0, nSetS, nMap, nMap0, nLen, nLen0, Nat.reduceAdd, Nat.reduceSub, nRep, nRep0, nApp, nApp0]; exact rfl
    have s1 : Sm 200 (1 : Int) := s200 (by decide)
    refine jss_next (js_set 4 ((je_neg (je_div (je_sub (je_add (je_var 3) (je_var 2)) je_int) (JI.mul (JI.int 1) (JI.v 2)) (by first | decide | assumption | omega))).eq (c' := .int 2) rfl) rfl nd) ?_
    refine JSs.norm (ρ2 := ?r2) ?e2 ?h2
    case e2 => dsimp only [startE, startC, N_lead_with_root, nTail, nSet0, nSetS, nMap, nMap0, nLen, nLen0, Nat.reduceAdd, Nat.reduceSub, nRep, nRep0, nApp, nApp0]; exact rfl
    refine jss_cons (Ψ := fun ρ' => ρ' = [some (.cw w dx (dMa ⟨1, -1, 1, -2⟩) (dF ⟨0, 1, 1, 1⟩)), some (.d (dP (-1) 1)), some (.d (.int 1)), some (.d (.int (-3))), some (.d (.int 2))]) (js_if ((jt_neI (je_var 4) je_int).eq (c' := true) (by decide)) (fun _ => jss_one (js_step (m := ⟨1, -1, -1, 0⟩) (mm := ⟨1, 0, 2, 1⟩) (f := ⟨0, 1, -3, 3⟩) 0 A hX (je_tup (ja_cons (je_tup (ja_cons je_int (ja_cons je_int ja_nil))) (ja_cons (je_tup (ja_cons (je_var 4) (ja_cons je_int ja_nil))) ja_nil))) smF_k smM_k smM_k ho rfl rfl rfl)) (fun h => nomatch h)) ?_
    rintro ρ' rfl
    exact jss_one (js_if ((jt_lt (je_ix hX (je_cwNu 0 hX A.wk) je_int 2 rfl rfl) je_int).eq (c' := false) (by decide)) (fun h => nomatch h) (fun _ => jss_nil ⟨_, rfl, w, dx, _, _, _, _, rfl, rfl, hl', rfl, rfl⟩))
  | b =>
    refine jss_cons (Ψ := fun ρ' => ρ' = [some (.cw w dx (dMa ⟨1, 0, 0, 1⟩) (dF ⟨0, 1, 1, 1⟩)), some (.d (dP 1 0)), none, none, none]) (js_step (m := idM) (f := ⟨0, 1, 1, 1⟩) 0 A hX (je_call hX (ok_end_change A) (ja_cons (je_var 1) ja_nil) (.inr ⟨rfl, rfl⟩)) smF_k smM_k smM_k ho rfl rfl rfl) ?_
    rintro ρ' rfl
    refine jss_cons (Ψ := fun ρ' => ρ' = [some (.cw w dx (dMa ⟨1, 0, 0, 1⟩) (dF ⟨0, 1, 1, 1⟩)), some (.d (dP 1 0)), none, none, none]) (js_if ((jt_lt (je_ix hX (je_cwNu 0 hX A.wk) je_int 1 rfl rfl) je_int).eq (c' := false) (by decide)) (fun h => nomatch h) (fun _ => jss_nil rfl)) ?_
    rintro ρ' rfl
    refine jss_next (js_par (i1 := 2) (i2 := 3) hX nd (ja_cons (je_ix hX (je_cwNu 0 hX A.wk) je_int 1 rfl rfl) (ja_cons (je_ix hX (je_cwNu 0 hX A.wk) je_int 2 rfl rfl) ja_nil)) rfl) ?_
    refine JSs.norm (ρ2 := ?r3) ?e3 ?h3
    case e3 => dsimp only [startE, startC, N_lead_with_root, nTail, nSet0, nSetS, nMap, nMap0, nLen, nLen0, Nat.reduceAdd, Nat.reduceSub, nRep, nRep0, nApp, nApp0]; exact rfl
    have s1 : Sm 200 (1 : Int) := s200 (by decide)
    refine jss_next (js_set 4 ((je_neg (je_div (je_sub (je_add (je_var 3) (je_var 2)) je_int) (JI.mul (JI.int 1) (JI.v 2)) (by first | decide | assumption | omega))).eq (c' := .int 0) rfl) rfl nd) ?_
    refine JSs.norm (ρ2 := ?r4) ?e4 ?h4
    case e4 => dsimp only [startE, startC, N_lead_with_root, nTail, nSet0, nSetS, nMap, nMap0, nLen, nLen0, Nat.reduceAdd, Nat.reduceSub, nRep, nRep0, nApp, nApp0]; exact rfl
    refine jss_cons (Ψ := fun ρ' => ρ' = [some (.cw w dx (dMa ⟨1, 0, 0, 1⟩) (dF ⟨0, 1, 1, 1⟩)), some (.d (dP 1 0)), some (.d (.int 1)), some (.d (.int 1)), some (.d (.int 0))]) (js_if ((jt_neI (je_var 4) je_int).eq (c' := false) (by decide)) (fun h => nomatch h) (fun _ => jss_nil rfl)) ?_
    rintro ρ' rfl
    exact jss_one (js_if ((jt_lt (je_ix hX (je_cwNu 0 hX A.wk) je_int 2 rfl rfl) je_int).eq (c' := false) (by decide)) (fun h => nomatch h) (fun _ => jss_nil ⟨_, rfl, w, dx, _, _, _, _, rfl, rfl, hl', rfl, rfl⟩))
end Fr
namespace Fr
open PySem PySem.Spec PyProof.Rows L2 StX
def Fo.small (f : Fo) : Bool := decide (0 < f.d * f.d - f.a * f.a + f.a * f.c - f.b * f.d)
def Fo.betw (f : Fo) : Bool := decide (-(f.a - f.b) * (f.a - f.b) - f.a * f.c < f.a * f.d - f.b * f.c) && decide (f.a * f.d - f.b * f.c < (f.a + f.b) * (f.a + f.b) + f.a * f.c)
def Fo.np (f : Fo) (s : Int) : Bool := decide (0 < fAt f.a f.b f.c f.d (f.a - f.b - 2 * s * f.a) f.a)
structure Lt100 (f : Fo) : Prop where
  a : f.a.natAbs < 2 ^ 100
  b : f.b.natAbs < 2 ^ 100
  c : f.c.natAbs < 2 ^ 100
  d : f.d.natAbs < 2 ^ 100
theorem lt200 {i : Int} (h : i.natAbs < 2 ^ 100) : Sm 200 i := Sm.k (Nat.lt_of_lt_of_le h (by decide))
theorem Lt100.sm {f : Fo} (h : Lt100 f) : SmF f := ⟨lt200 h.a, lt200 h.b, lt200 h.c, lt200 h.d⟩
theorem ok_is_small {T : Tx} (A : Al T) : PFn T "is_small" 1 (fun ds r => ∃ f : Fo, ds = [dF f] ∧ SmF f ∧ r = .bl f.small) := by
  refine A.d_is_small.pfn (k := 0) sc_is_small (by rintro _ _ ⟨_, rfl, _⟩; rfl) fun f cdv Ar outer sh Hh E hX ds d h => ?_
  have nd : ∀ i, (XB T N_is_small "is_small" s_is_small f cdv Ar outer sh Hh E i).N.Nodup := fun _ => sc_is_small.nd
  obtain ⟨⟨a, b, c, d⟩, rfl, ⟨ha, hb, hc, hd⟩, rfl⟩ := h
  dsimp only at ha hb hc hd
  show JSs T _ noM (startE N_is_small [dI4 a b c d]) _ _
  refine jss_next (js_asg (je_var 0) (jg_tup hX (jgs_next (jg_name 1 nd rfl) (jgs_next (jg_name 2 nd rfl) (jgs_next (jg_name 3 nd rfl) (jgs_next (jg_name 4 nd rfl) (jgs_nil rfl))))))) ?_
  refine JSs.norm (ρ2 := ?r1) ?e1 ?h1
  case e1 => dsimp only [startE, startC, N_is_small, nTail, nSet0, nSetS, nMap, nMap0, nLen, nLen0, Nat.reduceAdd, Nat.reduceSub, nRep, nRep0, nApp, nApp0]; exact rfl
  exact jss_one (js_ret (je_gt (je_sub (je_add (je_sub (je_mul (JI.v 4) (JI.v 4)) (je_mul (JI.v 1) (JI.v 1))) (je_mul (JI.v 1) (JI.v 3))) (je_mul (JI.v 2) (JI.v 4))) je_int) rfl)
theorem ok_is_between {T : Tx} (A : Al T) : PFn T "is_between" 1 (fun ds r => ∃ f : Fo, ds = [dF f] ∧ SmF f ∧ r = .bl f.betw) := by
  refine A.d_is_between.pfn (k := 0) sc_is_between (by rintro _ _ ⟨_, rfl, _⟩; rfl) fun f cdv Ar outer sh Hh E hX ds d h => ?_
  have nd : ∀ i, (XB T N_is_between "is_between" s_is_between f cdv Ar outer sh Hh E i).N.Nodup := fun _ => sc_is_between.nd
  obtain ⟨⟨a, b, c, d⟩, rfl, ⟨ha, hb, hc, hd⟩, rfl⟩ := h
  dsimp only at ha hb hc hd
  show JSs T _ noM (startE N_is_between [dI4 a b c d]) _ _
  refine jss_next (js_asg (je_var 0) (jg_tup hX (jgs_next (jg_name 1 nd rfl) (jgs_next (jg_name 2 nd rfl) (jgs_next (jg_name 3 nd rfl) (jgs_next (jg_name 4 nd rfl) (jgs_nil rfl))))))) ?_
  refine JSs.norm (ρ2 := ?r2) ?e2 ?h2
  case e2 => dsimp only [startE, startC, N_is_between, nTail, nSet0, nSetS, nMap, nMap0, nLen, nLen0, Nat.reduceAdd, Nat.reduceSub, nRep, nRep0, nApp, nApp0]; exact rfl
  refine jss_next (js_set 5 (je_sub (je_mul (JI.v 1) (JI.v 4)) (je_mul (JI.v 2) (JI.v 3))) rfl nd) ?_
  refine JSs.norm (ρ2 := ?r3) ?e3 ?h3
  case e3 => dsimp only [startE, startC, N_is_between, nTail, nSet0, nSetS, nMap, nMap0, nLen, nLen0, Nat.reduceAdd, Nat.reduceSub, nRep, nRep0, nApp, nApp0]; exact rfl
  exact jss_one (js_ret (je_ltLt (je_sub (je_mul (JI.neg (JI.sub (JI.v 1) (JI.v 2))) (JI.sub (JI.v 1) (JI.v 2))) (je_mul (JI.v 1) (JI.v 3))) (je_var 5) (je_add (je_mul (JI.add (JI.v 1) (JI.v 2)) (JI.add (JI.v 1) (JI.v 2))) (je_mul (JI.v 1) (JI.v 3)))) rfl)
theorem ok_is_not_past {T : Tx} (A : Al T) : PFn T "is_not_past" 2 (fun ds r => ∃ (f : Fo) (s : Int), ds = [dF f, .int s] ∧ Lt100 f ∧ s.natAbs < 2 ^ 64 ∧ r = .bl (f.np s)) := by
  refine A.d_is_not_past.pfn (k := 1) sc_is_not_past (by rintro _ _ ⟨_, _, rfl, _⟩; rfl) fun f cdv Ar outer sh Hh E hX ds d h => ?_
  have nd : ∀ i, (XB T N_is_not_past "is_not_past" s_is_not_past f cdv Ar outer sh Hh E i).N.Nodup := fun _ => sc_is_not_past.nd
  obtain ⟨⟨a, b, c, d⟩, s, rfl, hl, hs, rfl⟩ := h
  obtain ⟨ha, hb, hc, hd⟩ := hl.sm
  have h1 : Sm 200 (a - b - 2 * s * a) := by
    have l1 := hl.a
    have l2 := hl.b
    dsimp only at l1 l2
    have e : (2 * s * a).natAbs = 2 * (s.natAbs * a.natAbs) := by rw [Int.mul_assoc, Int.natAbs_mul, Int.natAbs_mul]; rfl
    have : s.natAbs * a.natAbs ≤ 2 ^ 64 * 2 ^ 100 := Nat.mul_le_mul (Nat.le_of_lt hs) (Nat.le_of_lt l1)
    refine Sm.k ?_
    have e2 : (2 : Nat) ^ 64 * 2 ^ 100 = 2 ^ 164 := by decide
    rw [e2] at this
    generalize s.natAbs * a.natAbs = z at *
    generalize 2 * s * a = y at *
    omega
  have ss : Sm 200 s := Sm.k (Nat.lt_of_lt_of_le hs (by decide))
  dsimp only at ha hb hc hd
  show JSs T _ noM (startE N_is_not_past [dI4 a b c d, .int s]) _ _
  refine jss_next (js_par (i1 := 2) (i2 := 3) hX nd (ja_cons (je_ix hX (je_var 0) je_int 0 rfl rfl) (ja_cons (je_ix hX (je_var 0) je_int 1 rfl rfl) ja_nil)) rfl) ?_
  refine JSs.norm (ρ2 := ?r4) ?e4 ?h4
  case e4 => dsimp only [startE, startC, N_is_not_past, nTail, nSet0, nSetS, nMap, nMap0, nLen, nLen0, Nat.reduceAdd, Nat.reduceSub, nRep, nRep0, nApp, nApp0]; exact rfl
  exact jss_one (js_ret (je_gt (je_call hX (ok_form_at A) (ja_cons (je_var 0) (ja_cons (je_sub (je_sub (je_var 2) (je_var 3)) (je_mul (JI.mul (JI.int 1) (JI.v 1)) (JI.v 2))) (ja_cons (je_var 2) ja_nil))) ⟨_, _, _, _, _, _, rfl, ha, hb, hc, hd, h1, ha, rfl⟩) je_int) rfl)
/-! ### the shift -/
structure Thr (f : Fo) (s : Int) : Prop where
  at_ : ∀ x, f.np x = decide (x ≤ s)
  sm : s.natAbs < 2 ^ 60
theorem Thr.uniq {f : Fo} {s t : Int} (h : Thr f s) (k : Thr f t) : s = t := by
  have h1 := h.at_ t
  have h2 := k.at_ s
  rw [k.at_ t, decide_eq_true (Int.le_refl t)] at h1
  rw [h.at_ s, decide_eq_true (Int.le_refl s)] at h2
  have h1 := of_decide_eq_true h1.symm
  have h2 := of_decide_eq_true h2.symm
  omega
theorem ok_best_shift {T : Tx} (A : Al T) : PFn T "best_shift" 3 (fun ds r => ∃ (f : Fo) (s : Int), ds = [dF f] ∧ Lt100 f ∧ Thr f s ∧ r = .int s) := by
  refine A.d_best_shift.pfn (k := 2) sc_best_shift (by rintro _ _ ⟨_, _, rfl, _⟩; rfl) fun f cdv Ar outer sh Hh E hX ds d h => ?_
  have nd : ∀ i, (XB T N_best_shift "best_shift" s_best_shift f cdv Ar outer sh Hh E i).N.Nodup := fun _ => sc_best_shift.nd
  obtain ⟨fo, s, rfl, hl, ht, rfl⟩ := h
  have hsm := ht.sm
  refine jss_next (js_asg (je_tup (ja_cons (je_neg je_int) (ja_cons je_int ja_nil))) (jg_tup hX (jgs_next (jg_name 1 nd rfl) (jgs_next (jg_name 2 nd rfl) (jgs_nil rfl))))) ?_
  refine JSs.norm (ρ2 := ?r5) ?e5 ?h5
  case e5 => dsimp only [startE, startC, N_best_shift, nTail, nSet0, nSetS, nMap, nMap0, nLen, nLen0, Nat.reduceAdd, Nat.reduceSub, nRep, nRep0, nApp, nApp0]; exact rfl
  -- low
  refine jss_cons (Ψ := fun ρ' => ∃ lo : Int, ρ' = [some (.d (dF fo)), some (.d (.int lo)), some (.d (.int 1)), none] ∧ lo ≤ s ∧ -(2 ^ 62) < lo) (js_while (fun _ => noPass) (fun z ρ' => ∃ lo : Int, ρ' = [some (.d (dF fo)), some (.d (.int lo)), some (.d (.int 1)), none] ∧ lo ≤ -1 ∧ -(2 ^ 62) < lo ∧ (lo + 2 ^ 62).toNat = z) (-1 + 2 ^ 62 : Int).toNat ⟨-1, rfl, by decide, by decide, rfl⟩ ?_) ?_
  · rintro z ρ' ⟨lo, rfl, h1, h2, rfl⟩
    refine ⟨_, (jt_not (jt_val (je_call hX (ok_is_not_past A) (ja_cons (je_var 0) (ja_cons (je_var 1) ja_nil)) ⟨_, _, rfl, hl, by omega, rfl⟩))), fun h => ?_, fun h => ?_⟩
    · rw [ht.at_] at h
      have h : ¬ lo ≤ s := by simpa using h
      exact jss_one (js_augC (C := CMul) 1 (fun _ => iop_mul) nd rfl je_int (.inr ⟨by decide, by decide⟩) ⟨(lo * 2 + 2 ^ 62).toNat, by omega, lo * 2, rfl, by omega, by omega, rfl⟩)
    · rw [ht.at_] at h
      have h : lo ≤ s := by simpa using h
      exact ⟨lo, rfl, h, h2⟩
  · rintro ρ' ⟨lo, rfl, hlo, hlo2⟩
    refine jss_cons (Ψ := fun ρ' => ∃ hi : Int, ρ' = [some (.d (dF fo)), some (.d (.int lo)), some (.d (.int hi)), none] ∧ s < hi ∧ hi < 2 ^ 62) (js_while (fun _ => noPass) (fun z ρ' => ∃ hi : Int, ρ' = [some (.d (dF fo)), some (.d (.int lo)), some (.d (.int hi)), none] ∧ 1 ≤ hi ∧ hi < 2 ^ 62 ∧ (2 ^ 62 - hi).toNat = z) (2 ^ 62 - 1 : Int).toNat ⟨1, rfl, by decide, by decide, rfl⟩ ?_) ?_
    · rintro z ρ' ⟨hi, rfl, h1, h2, rfl⟩
      refine ⟨_, (jt_val (je_call hX (ok_is_not_past A) (ja_cons (je_var 0) (ja_cons (je_var 2) ja_nil)) ⟨_, _, rfl, hl, by omega, rfl⟩)), fun h => ?_, fun h => ?_⟩
      · rw [ht.at_] at h
        have h : hi ≤ s := by simpa using h
        exact jss_one (js_augC (C := CMul) 2 (fun _ => iop_mul) nd rfl je_int (.inr ⟨by decide, by decide⟩) ⟨(2 ^ 62 - hi * 2).toNat, by omega, hi * 2, rfl, by omega, by omega, rfl⟩)
      · rw [ht.at_] at h
        have h : ¬ hi ≤ s := by simpa using h
        exact ⟨hi, rfl, by omega, h2⟩
    · rintro ρ' ⟨hi, rfl, hhi, hhi2⟩
      refine jss_cons (Ψ := fun ρ' => ∃ y x, ρ' = [some (.d (dF fo)), some (.d (.int s)), y, x]) (js_while (fun _ => noPass) (fun z ρ' => ∃ (lo hi : Int) (x : Option Sl), ρ' = [some (.d (dF fo)), some (.d (.int lo)), some (.d (.int hi)), x] ∧ lo ≤ s ∧ s < hi ∧ -(2 ^ 62) < lo ∧ hi < 2 ^ 62 ∧ (hi - lo).toNat = z) (hi - lo).toNat ⟨lo, hi, none, rfl, hlo, hhi, hlo2, hhi2, rfl⟩ ?_) ?_
      · rintro z ρ' ⟨lo, hi, x, rfl, h1, h2, h3, h4, rfl⟩
        refine ⟨_, (jt_gt (je_sub (je_var 2) (je_var 1)) je_int), fun h => ?_, fun h => ?_⟩
        · have h : 1 < hi - lo := of_decide_eq_true h
          refine jss_next (js_set 3 (je_div (je_add (je_var 1) (je_var 2)) (JI.int 1) (by first | decide | assumption | omega)) rfl nd) ?_
          refine JSs.norm (ρ2 := ?r6) ?e6 ?h6
          case e6 => dsimp only [startE, startC, N_best_shift, nTail, nSet0, nSetS, nMap, nMap0, nLen, nLen0, Nat.reduceAdd, Nat.reduceSub, nRep, nRep0, nApp, nApp0]; exact rfl
          refine jss_one (js_if (jt_val (je_call hX (ok_is_not_past A) (ja_cons (je_var 0) (ja_cons (je_var 3) ja_nil)) ⟨_, _, rfl, hl, by omega, rfl⟩)) (fun h => ?_) (fun h => ?_))
          · rw [ht.at_] at h
            have h : (lo + hi) / 2 ≤ s := by simpa using h
            exact jss_one (js_set 1 (je_var 3) ⟨(hi - (lo + hi) / 2).toNat, by omega, (lo + hi) / 2, hi, _, rfl, h, h2, by omega, h4, rfl⟩ nd)
          · rw [ht.at_] at h
            have h : ¬ (lo + hi) / 2 ≤ s := by simpa using h
            exact jss_one (js_set 2 (je_var 3) ⟨((lo + hi) / 2 - lo).toNat, by omega, lo, (lo + hi) / 2, _, rfl, h1, by omega, h3, by omega, rfl⟩ nd)
        · have h : ¬ 1 < hi - lo := of_decide_eq_false h
          have e : lo = s := by omega
          subst e
          exact ⟨_, x, rfl⟩
      · rintro ρ' ⟨y, x, rfl⟩
        exact jss_one (js_ret (je_var 1) rfl)
end Fr
namespace Fr
open PySem PySem.Spec PyProof.Rows L2 StX
structure Wa where
  f : Fo
  m : Ma
def Wa.st (w : Wa) (n : Ma) : Wa := ⟨w.f.led n, w.m.join n⟩
def Wa.opp (w : Wa) : Wa := if w.f.a < 0 then w.st ⟨-1, 0, 0, -1⟩ else w
def Wa.sh (w : Wa) (s : Int) : Wa := if s = 0 then w else w.st ⟨1, 0, s, 1⟩
def Wa.ex (w : Wa) : Wa := if w.f.small = true then w else (w.st ⟨0, 1, -1, 0⟩).opp
def Wa.fin (w : Wa) : Wa := if w.f.b < 0 ∨ (w.f.b = 0 ∧ w.f.d < 0) then w.st ⟨-1, 0, 0, 1⟩ else w
structure SmW (w : Wa) : Prop where
  f : Lt100 w.f
  m : SmM w.m
inductive Runs : Nat → Wa → Wa → Prop
  | done {w : Wa} (h : (w.f.small && w.f.betw) = true) (s : SmW w) : Runs 0 w w
  | turn {n : Nat} {w w' : Wa} {s : Int} (h : (w.f.small && w.f.betw) = false) (s1 : SmW w) (t : Thr w.f s) (s2 : SmW (w.sh s)) (s3 : SmW ((w.sh s).st ⟨0, 1, -1, 0⟩)) (r : Runs n (w.sh s).ex w') : Runs (n + 1) w w'
theorem Runs.uniq : ∀ {n k : Nat} {w x y : Wa}, Runs n w x → Runs k w y → x = y
  | _, _, _, _, _, .done h _, .done _ _ => rfl
  | _, _, _, _, _, .done h _, .turn h2 _ _ _ _ _ => by rw [h] at h2; cases h2
  | _, _, _, _, _, .turn h _ _ _ _ _, .done h2 _ => by rw [h] at h2; cases h2
  | _, _, _, _, _, .turn _ _ t _ _ r, .turn _ _ t2 _ _ r2 => by
    have e := t.uniq t2
    subst e
    exact r.uniq r2
theorem Runs.smW : ∀ {n : Nat} {w x : Wa}, Runs n w x → SmW w ∧ SmW x ∧ (x.f.small && x.f.betw) = true
  | _, _, _, .done h s => ⟨s, s, h⟩
  | _, _, _, .turn _ s _ _ _ r => ⟨s, r.smW.2⟩
theorem dF_inj {f g : Fo} (h : dF f = dF g) : f = g := by
  cases f; cases g
  simp [dF, dI4] at h
  simp [h]
theorem dMa_inj {f g : Ma} (h : dMa f = dMa g) : f = g := by
  cases f; cases g
  simp [dMa, dM, dP] at h
  simp [h]
def cwW (w dx : Addr) (x : Wa) : Sl := .cw w dx (dMa x.m) (dF x.f)
theorem cwW_inj {w dx w' dx' : Addr} {x y : Wa} (h : cwW w dx x = cwW w' dx' y) : w = w' ∧ dx = dx' ∧ x = y := by
  injection h with e1 e2 e3 e4
  cases x; cases y
  have h1 := dMa_inj e3
  have h2 := dF_inj e4
  dsimp only at h1 h2
  exact ⟨e1, e2, by rw [h1, h2]⟩
def PreN (c : Sl) (ds : List D) : Prop := ∃ w dx x y n, c = cwW w dx x ∧ ds = [] ∧ SmW x ∧ Runs n x.opp y
def PoN (c : Sl) (ds : List D) (d : D) (c' : Sl) : Prop := ∃ w dx x y n, c = cwW w dx x ∧ Runs n x.opp y ∧ d = .non ∧ c' = cwW w dx y.fin
theorem ok_lead_without_root {T : Tx} (A : Al T) : CFn T "lead_without_root" 4 PreN PoN := by
  refine A.d_lead_without_root.cfn (n0 := "walk") (N := N_lead_without_root.tail) (k := 3) sc_lead_without_root (by rintro _ _ ⟨_, _, _, _, _, _, rfl, _⟩; rfl) (by rintro _ _ _ _ ⟨_, _, _, _, _, rfl, _, _, rfl⟩; exact ⟨rfl, rfl⟩) fun f cdv Ar outer sh Hh E hX c ds h => ?_
  have nd : ∀ i, (XB T N_lead_without_root "lead_without_root" s_lead_without_root f cdv Ar outer sh Hh E i).N.Nodup := fun _ => sc_lead_without_root.nd
  obtain ⟨w, dx, x0, y, n, rfl, rfl, hs0, hr⟩ := h
  have ho : ∀ a, two w dx a → hidOf (cwW w dx x0) a := fun _ h => h
  refine jss_cons (Ψ := fun ρ' => ρ' = [some (cwW w dx x0.opp), none, none, none, none, none]) (js_if (c := decide (x0.f.a < 0)) (jt_lt (je_ix hX (je_cwNu 0 hX A.wk) je_int 0 rfl rfl) je_int) (fun h => ?_) (fun h => ?_)) ?_
  · refine jss_one (js_step (m := x0.m) (mm := ⟨-1, 0, 0, -1⟩) (f := x0.f) 0 A hX (je_glob hX A.c_OPPOSITE_below) hs0.f.sm hs0.m smM_k ho rfl rfl ?_)
    show [_, _, _, _, _, _] = _
    rw [Wa.opp, if_pos (of_decide_eq_true h)]
    rfl
  · refine jss_nil ?_
    show [_, _, _, _, _, _] = _
    rw [Wa.opp, if_neg (of_decide_eq_false h)]
  rintro ρ' rfl
  refine jss_cons (Ψ := fun ρ' => ∃ v, ρ' = [some (cwW w dx y), v, none, none, none, none] ∧ plainS v = true) (js_while (fun _ => noPass) (fun z ρ' => ∃ x v, ρ' = [some (cwW w dx x), v, none, none, none, none] ∧ plainS v = true ∧ Runs z x y) n ⟨_, _, rfl, rfl, hr⟩ ?_) ?_
  · rintro z ρ' ⟨x, v, rfl, pv, hr⟩
    have sx := hr.smW.1
    refine ⟨_, (jt_W (jw_or (jt_not (jt_val (je_call hX (ok_is_small A) (ja_cons (je_cwNu 0 hX A.wk) ja_nil) ⟨_, rfl, sx.f.sm, rfl⟩))) (jw_or1 (jt_not (jt_val (je_call hX (ok_is_between A) (ja_cons (je_cwNu 0 hX A.wk) ja_nil) ⟨_, rfl, sx.f.sm, rfl⟩)))))), fun h => ?_, fun h => ?_⟩
    · cases hr with
      | done hd _ =>
        rw [← Bool.not_and, hd] at h
        cases h
      | @turn n _ _ s hd _ t s2 s3 r =>
        refine jss_next (js_set 1 (je_call hX (ok_best_shift A) (ja_cons (je_cwNu 0 hX A.wk) ja_nil) ⟨_, _, rfl, sx.f, t, rfl⟩) rfl nd) ?_
        show JSs T _ _ [some (cwW w dx x), some (.d (.int s)), none, none, none, none] _ _
        have ss : s.natAbs < 2 ^ 201 := Nat.lt_of_lt_of_le t.sm (by decide)
        refine jss_cons (Ψ := fun ρ' => ρ' = [some (cwW w dx (x.sh s)), some (.d (.int s)), none, none, none, none]) (js_if (c := !decide (s = 0)) (jt_neI (je_var 1) je_int) (fun h => ?_) (fun h => ?_)) ?_
        · refine jss_one (js_step (m := x.m) (mm := ⟨1, 0, s, 1⟩) (f := x.f) 0 A hX (je_tup (ja_cons (je_tup (ja_cons je_int (ja_cons je_int ja_nil))) (ja_cons (je_tup (ja_cons (je_var 1) (ja_cons je_int ja_nil))) ja_nil))) sx.f.sm sx.m (smM_k ⟨by decide, by decide, ss, by decide⟩) ho rfl rfl ?_)
          show [_, _, _, _, _, _] = _
          have h : ¬ s = 0 := by simpa using h
          rw [Wa.sh, if_neg h]
          rfl
        · refine jss_nil ?_
          have h : s = 0 := by simpa using h
          rw [Wa.sh, if_pos h]
        rintro ρ' rfl
        generalize hx1 : x.sh s = x1 at s2 s3 r
        refine jss_one (js_if (c := !x1.f.small) (jt_not (jt_val (je_call hX (ok_is_small A) (ja_cons (je_cwNu 0 hX A.wk) ja_nil) ⟨_, rfl, s2.f.sm, rfl⟩))) (fun h => ?_) (fun h => ?_))
        · have h : ¬ x1.f.small = true := by simpa using h
          refine jss_cons (Ψ := fun ρ' => ρ' = [some (cwW w dx (x1.st ⟨0, 1, -1, 0⟩)), some (.d (.int s)), none, none, none, none]) (js_step (m := x1.m) (mm := ⟨0, 1, -1, 0⟩) (f := x1.f) 0 A hX (je_glob hX A.c_EXCHANGE) s2.f.sm s2.m smM_k ho rfl rfl rfl) ?_
          rintro ρ' rfl
          have ex : x1.ex = (x1.st ⟨0, 1, -1, 0⟩).opp := if_neg h
          rw [ex] at r
          generalize x1.st ⟨0, 1, -1, 0⟩ = x2 at s3 r
          refine jss_one (js_if (c := decide (x2.f.a < 0)) (jt_lt (je_ix hX (je_cwNu 0 hX A.wk) je_int 0 rfl rfl) je_int) (fun h => ?_) (fun h => ?_))
          · refine jss_one (js_step (m := x2.m) (mm := ⟨-1, 0, 0, -1⟩) (f := x2.f) 0 A hX (je_glob hX A.c_OPPOSITE_below) s3.f.sm s3.m smM_k ho rfl rfl ⟨n, Nat.lt_succ_self _, x2.opp, some (.d (.int s)), ?_, rfl, r⟩)
            show [_, _, _, _, _, _] = _
            rw [Wa.opp, if_pos (of_decide_eq_true h)]
            rfl
          · refine jss_nil ⟨n, Nat.lt_succ_self _, x2.opp, some (.d (.int s)), ?_, rfl, r⟩
            rw [Wa.opp, if_neg (of_decide_eq_false h)]
        · have h : x1.f.small = true := by simpa using h
          have ex : x1.ex = x1 := if_pos h
          rw [ex] at r
          exact jss_nil ⟨n, Nat.lt_succ_self _, x1, some (.d (.int s)), rfl, rfl, r⟩
    · cases hr with
      | done hd _ => exact ⟨v, rfl, pv⟩
      | turn hd _ t s2 s3 r =>
        rw [← Bool.not_and, hd] at h
        cases h
  · rintro ρ' ⟨v, rfl, pv⟩
    have sy := hr.smW.2.1
    refine jss_next (js_asg (je_cwNu 0 hX A.wk) (jg_tup hX (jgs_next (jg_name 2 nd rfl) (jgs_next (jg_name 3 nd rfl) (jgs_next (jg_name 4 nd rfl) (jgs_next (jg_name 5 nd rfl) (jgs_nil rfl))))))) ?_
    refine JSs.norm (ρ2 := ?r1) ?e1 ?h1
    case e1 => dsimp only [startE, startC, N_lead_without_root, nTail, nSet0, nSetS, nMap, nMap0, nLen, nLen0, Nat.reduceAdd, Nat.reduceSub, nRep, nRep0, nApp, nApp0]; exact rfl
    refine jss_one (js_if (c := decide (y.f.b < 0) || (decide (y.f.b = 0) && decide (y.f.d < 0))) (jt_W (jw_or (jt_lt (je_var 3) je_int) (jw_or1 (jt_W (jw_and (jt_eqI (je_var 3) je_int) (jw_and1 (jt_lt (je_var 5) je_int))))))) (fun h => ?_) (fun h => ?_))
    · refine jss_one (js_step (m := y.m) (mm := ⟨-1, 0, 0, 1⟩) (f := y.f) 0 A hX (je_glob hX A.c_MIRROR_BACK) sy.f.sm sy.m smM_k ho rfl ?_ ⟨_, rfl, w, dx, x0, y, n, rfl, hr, rfl, ?_⟩)
      · show plainE [none, v, _, _, _, _] = true
        simp [plainE, plainS_d, plainS_n, pv]
      · rw [Wa.fin, if_pos (by simpa using h)]
        rfl
    · refine jss_nil ⟨_, rfl, w, dx, x0, y, n, rfl, hr, rfl, ?_⟩
      rw [Wa.fin, if_neg (by simpa using h)]
end Fr
namespace Fr
open PySem PySem.Spec PyProof.Rows L2 StX
inductive LeadR : Fo → Fo → Ma → Prop
  | root {f : Fo} {pl : Ma} {g : Fo} {m : Ma} (h : LwR f pl g m) : LeadR f g m
  | free {f : Fo} {n : Nat} {y : Wa} (hp : PlC f []) (hs : SmW ⟨f, idM⟩) (r : Runs n (Wa.opp ⟨f, idM⟩) y) : LeadR f y.fin.f y.fin.m
theorem smM_id : SmM idM := smM_k
theorem LwR.uniq {f g g' : Fo} {pl pl' m m' : Ma} (h : LwR f pl g m) (k : LwR f pl' g' m') : g = g' ∧ m = m' := by
  cases h with
  | a => cases k; exact ⟨rfl, rfl⟩
  | b => cases k; exact ⟨rfl, rfl⟩
theorem LwR.place {f g : Fo} {pl m : Ma} (h : LwR f pl g m) : PlC f [(pl.p, pl.q)] := by
  cases h with
  | a => exact .two
  | b => exact .end_
theorem cw_eq {w dx w' dx' : Addr} {m m' : Ma} {f f' : Fo} (h : Sl.cw w dx (dMa m) (dF f) = .cw w' dx' (dMa m') (dF f')) : w = w' ∧ dx = dx' ∧ m = m' ∧ f = f' := by
  injection h with e1 e2 e3 e4
  exact ⟨e1, e2, dMa_inj e3, dF_inj e4⟩
theorem ok_led_below {T : Tx} (A : Al T) : PFn T "led_below" 5 (fun ds r => ∃ (f g : Fo) (m : Ma), ds = [dF f] ∧ LeadR f g m ∧ r = .tup [dF g, dMa m]) := by
  refine A.d_led_below.pfn (k := 4) sc_led_below (by rintro _ _ ⟨_, _, _, rfl, _⟩; rfl) fun f cdv Ar outer sh Hh E hX ds d h => ?_
  have nd : ∀ i, (XB T N_led_below "led_below" s_led_below f cdv Ar outer sh Hh E i).N.Nodup := fun _ => sc_led_below.nd
  obtain ⟨fo, g, m, rfl, hl, rfl⟩ := h
  have fin : ∀ w dx : Addr, ∀ z : D, JSs T (XB T N_led_below "led_below" s_led_below f cdv Ar outer sh Hh E) (orH noM (two w dx)) [some (.d (dF fo)), some (.cw w dx (dMa m) (dF g)), some (.d z)] (match defBody s_led_below with | [_, _, c] => [c] | _ => []) (OpenPst (two w dx) { nx := fun _ => D.tup [dF g, dMa m] = .non, rt := fun x _ => x = .d (.tup [dF g, dMa m]) }) := fun w dx z =>
    jss_one (js_ret (je_tup (ja_cons (je_cwNu 1 hX A.wk) (ja_cons (je_cwCh 1 hX A.wk) ja_nil))) ⟨_, .d _, fun _ => rfl⟩)
  cases hl with
  | root hl =>
    rename_i pl
    refine jss_openWalk 1 2 hX A.wk (mk_Walk A) nd (je_var 0) (je_call hX (ok_places_of_cubic A) (ja_cons (je_var 0) ja_nil) ⟨_, _, rfl, hl.place, rfl⟩) ⟨fo, rfl, rfl, rfl⟩ (by decide) fun w dx => ?_
    have ho : ∀ a, two w dx a → orH noM (two w dx) a := fun _ h => .inr h
    show JSs T _ _ [some (.d (dF fo)), some (.cw w dx (dMa idM) (dF fo)), some (.d (.tup [prD (pl.p, pl.q)]))] _ _
    refine jss_cons (Ψ := fun ρ' => ρ' = [some (.d (dF fo)), some (.cw w dx (dMa m) (dF g)), some (.d (.tup [prD (pl.p, pl.q)]))]) (js_if (c := true) ((jt_neD hX (je_var 2) (je_tup ja_nil)).eq (by simp [toPy, toPys, PyData.eqv, PyData.eqvAll, prD])) (fun _ => ?_) (fun h => nomatch h)) ?_
    · refine jss_one (js_exprM (jm_callC (c0 := .cw w dx (dMa idM) (dF fo)) (Ψ := fun _ ρ' => ρ' = [some (.d (dF fo)), some (.cw w dx (dMa m) (dF g)), some (.d (.tup [prD (pl.p, pl.q)]))]) 1 hX (ok_lead_with_root A) (ja_cons (je_ix hX (je_var 2) je_int 0 rfl rfl) ja_nil) ⟨w, dx, fo, pl, g, m, rfl, rfl, hl⟩ ho rfl rfl fun d c' hc => ?_) fun d ρ' h => h)
      obtain ⟨w', dx', f', pl', g', m', h1, h2, h3, rfl, rfl⟩ := hc
      obtain ⟨rfl, rfl, _, rfl⟩ := cw_eq h1
      obtain ⟨rfl, rfl⟩ := hl.uniq h3
      rfl
    · rintro ρ' rfl
      exact fin w dx _
  | free hp hs r =>
    rename_i n y
    refine jss_openWalk 1 2 hX A.wk (mk_Walk A) nd (je_var 0) (je_call hX (ok_places_of_cubic A) (ja_cons (je_var 0) ja_nil) ⟨_, _, rfl, hp, rfl⟩) ⟨fo, rfl, rfl, rfl⟩ (by decide) fun w dx => ?_
    have ho : ∀ a, two w dx a → orH noM (two w dx) a := fun _ h => .inr h
    show JSs T _ _ [some (.d (dF fo)), some (.cw w dx (dMa idM) (dF fo)), some (.d (.tup []))] _ _
    refine jss_cons (Ψ := fun ρ' => ρ' = [some (.d (dF fo)), some (.cw w dx (dMa y.fin.m) (dF y.fin.f)), some (.d (.tup []))]) (js_if (c := false) ((jt_neD hX (je_var 2) (je_tup ja_nil)).eq (by simp [toPy, toPys, PyData.eqv, PyData.eqvAll])) (fun h => nomatch h) (fun _ => ?_)) ?_
    · refine jss_one (js_exprM (jm_callC (c0 := .cw w dx (dMa idM) (dF fo)) (Ψ := fun _ ρ' => ρ' = [some (.d (dF fo)), some (.cw w dx (dMa y.fin.m) (dF y.fin.f)), some (.d (.tup []))]) 1 hX (ok_lead_without_root A) ja_nil ⟨w, dx, ⟨fo, idM⟩, y, n, rfl, rfl, hs, r⟩ ho rfl rfl fun d c' hc => ?_) fun d ρ' h => h)
      obtain ⟨w', dx', x', y', n', h1, h2, rfl, rfl⟩ := hc
      obtain ⟨rfl, rfl, rfl⟩ := cwW_inj (x := ⟨fo, idM⟩) h1
      have := r.uniq h2
      subst this
      rfl
    · rintro ρ' rfl
      exact fin w dx _
theorem ok_least_of {T : Tx} (A : Al T) : PFn T "least_of" 6 (fun ds r => ∃ (f g : Fo) (m : Ma), ds = [dF f] ∧ SmF f ∧ f.disc < 0 ∧ LeadR f g m ∧ r = .tup [dF g, dMa m]) := by
  refine A.d_least_of.pfn (k := 5) sc_least_of (by rintro _ _ ⟨_, _, _, rfl, _⟩; rfl) fun f cdv Ar outer sh Hh E hX ds d h => ?_
  have nd : ∀ i, (XB T N_least_of "least_of" s_least_of f cdv Ar outer sh Hh E i).N.Nodup := fun _ => sc_least_of.nd
  obtain ⟨fo, g, m, rfl, hs, hd, hl, rfl⟩ := h
  refine jss_next (js_set 1 (je_call hX (ok_discriminant_of A) (ja_cons (je_var 0) ja_nil) ⟨_, rfl, hs, rfl⟩) rfl nd) ?_
  refine JSs.norm (ρ2 := ?r1) ?e1 ?h1
  case e1 => dsimp only [startE, startC, N_least_of, nTail, nSet0, nSetS, nMap, nMap0, nLen, nLen0, Nat.reduceAdd, Nat.reduceSub, nRep, nRep0, nApp, nApp0]; exact rfl
  refine jss_next (js_if (c := false) ((jt_eqI (je_var 1) je_int).eq (decide_eq_false (by omega))) (fun h => nomatch h) (fun _ => jss_nil rfl)) ?_
  exact jss_one (js_ret (je_ifF ((jt_gt (je_var 1) je_int).eq (decide_eq_false (by omega))) (pex _) (je_call hX (ok_led_below A) (ja_cons (je_var 0) ja_nil) ⟨_, _, _, rfl, hl, rfl⟩)) rfl)
theorem ok_least_row {T : Tx} (A : Al T) : PFn T "least_row" 7 (fun ds r => ∃ (f g : Fo) (m : Ma), ds = [dF f] ∧ SmF f ∧ f.disc < 0 ∧ LeadR f g m ∧ r = dF g) := by
  refine A.d_least_row.pfn (k := 6) sc_least_row (by rintro _ _ ⟨_, _, _, rfl, _⟩; rfl) fun f cdv Ar outer sh Hh E hX ds d h => ?_
  have nd : ∀ i, (XB T N_least_row "least_row" s_least_row f cdv Ar outer sh Hh E i).N.Nodup := fun _ => sc_least_row.nd
  obtain ⟨fo, g, m, rfl, hs, hd, hl, rfl⟩ := h
  exact jss_one (js_ret (je_ix hX (je_call hX (ok_least_of A) (ja_cons (je_var 0) ja_nil) ⟨_, _, _, rfl, hs, hd, hl, rfl⟩) je_int 0 rfl rfl) rfl)
theorem ok_least_made {T : Tx} (A : Al T) : PFn T "least_made" 8 (fun ds r => ∃ (f g : Fo) (m : Ma), ds = [dF f] ∧ SmF f ∧ f.disc < 0 ∧ LeadR f g m ∧ r = .obj true (dF g)) := by
  refine A.d_least_made.pfn (k := 7) sc_least_made (by rintro _ _ ⟨_, _, _, rfl, _⟩; rfl) fun f cdv Ar outer sh Hh E hX ds d h => ?_
  have nd : ∀ i, (XB T N_least_made "least_made" s_least_made f cdv Ar outer sh Hh E i).N.Nodup := fun _ => sc_least_made.nd
  obtain ⟨fo, g, m, rfl, hs, hd, hl, rfl⟩ := h
  exact jss_one (js_ret (je_call hX (ok_made_form A) (ja_cons (je_call hX (ok_least_row A) (ja_cons (je_var 0) ja_nil) ⟨_, _, _, rfl, hs, hd, hl, rfl⟩) ja_nil) ⟨_, .inl rfl, rfl⟩) rfl)
structure In20 (f : Fo) : Prop where
  a : f.a.natAbs < 10 ^ 20
  b : f.b.natAbs < 10 ^ 20
  c : f.c.natAbs < 10 ^ 20
  d : f.d.natAbs < 10 ^ 20
theorem In20.sm {f : Fo} (h : In20 f) : SmF f := by
  have p : ∀ {i : Int}, i.natAbs < 10 ^ 20 → Sm 200 i := fun h => Sm.k (Nat.lt_trans h (by decide))
  exact ⟨p h.a, p h.b, p h.c, p h.d⟩
theorem in20_mem {f : Fo} (h : In20 f) : ∀ d ∈ [D.int f.a, .int f.b, .int f.c, .int f.d], ∃ i : Int, d = .int i ∧ i.natAbs < 10 ^ 20 := fun d hd => by
  simp only [List.mem_cons, List.not_mem_nil, or_false] at hd
  rcases hd with rfl | rfl | rfl | rfl
  · exact ⟨_, rfl, h.a⟩
  · exact ⟨_, rfl, h.b⟩
  · exact ⟨_, rfl, h.c⟩
  · exact ⟨_, rfl, h.d⟩
theorem ok_require_short {T : Tx} (A : Al T) : PFn T "require_short" 1 (fun ds r => ∃ f : Fo, ds = [dF f] ∧ In20 f ∧ r = .non) := by
  refine A.d_require_short.pfn (k := 0) sc_require_short (by rintro _ _ ⟨_, rfl, _⟩; rfl) fun f cdv Ar outer sh Hh E hX ds d h => ?_
  have nd : ∀ i, (XB T N_require_short "require_short" s_require_short f cdv Ar outer sh Hh E i).N.Nodup := fun _ => sc_require_short.nd
  obtain ⟨fo, rfl, hf, rfl⟩ := h
  refine jss_one (js_if (c := false) ((jt_val (je_any (l := [false, false, false, false]) hX A.b_any (je_lcL 1 (fun _ => .bl false) hX nd (jit_tup hX (je_var 0)) (he := fun d hd => ?_) (ok := fun _ => blkOk_by rfl)))).eq rfl) (fun h => nomatch h) (fun _ => jss_nil rfl))
  obtain ⟨i, rfl, hi⟩ := in20_mem hf d hd
  refine JE.eq (je_ge (je_abs (hX.blk _) A.b_abs (je_var 1)) (je_pow je_int je_int (by decide))) ?_
  have : ¬ ((10 : Int) ^ (20 : Int).toNat ≤ if i < 0 then -i else i) := by
    have e : (10 : Int) ^ (20 : Int).toNat = 100000000000000000000 := by decide
    have e2 : (10 : Nat) ^ 20 = 100000000000000000000 := by decide
    rw [e2] at hi
    rw [e]
    split <;> omega
  rw [decide_eq_false this]
theorem ok_is_least {T : Tx} (A : Al T) : PFn T "is_least" 7 (fun ds r => ∃ (f : Fo) (m : Ma), ds = [.obj true (dF f)] ∧ In20 f ∧ f.disc < 0 ∧ LeadR f f m ∧ r = .bl true) := by
  refine A.d_is_least.pfn (k := 6) sc_is_least (by rintro _ _ ⟨_, _, rfl, _⟩; rfl) fun f cdv Ar outer sh Hh E hX ds d h => ?_
  have nd : ∀ i, (XB T N_is_least "is_least" s_is_least f cdv Ar outer sh Hh E i).N.Nodup := fun _ => sc_is_least.nd
  obtain ⟨fo, m, rfl, hs, hd, hl, rfl⟩ := h
  refine jss_next (js_expr (je_call hX (ok_require_form A) (ja_cons (je_var 0) ja_nil) ⟨_, rfl, rfl⟩) rfl) ?_
  refine jss_next (js_expr (je_call hX (ok_require_short A) (ja_cons (je_slot hX (A.cls true) A.sl_own_coefficients (je_var 0)) ja_nil) ⟨_, rfl, hs, rfl⟩) rfl) ?_
  refine jss_one (js_ret (je_eqD (x := dF fo) (y := dF fo) hX (je_ix hX (je_call hX (ok_least_of A) (ja_cons (je_slot hX (A.cls true) A.sl_own_coefficients (je_var 0)) ja_nil) ⟨_, _, _, rfl, hs.sm, hd, hl, rfl⟩) je_int 0 rfl rfl) (je_slot hX (A.cls true) A.sl_own_coefficients (je_var 0))) (rbl ?_))
  simp [toPy, toPys, PyData.eqv, PyData.eqvAll, dF, dI4]
theorem ok_least_form {T : Tx} (A : Al T) : PFn T "least_form" 9 (fun ds r => ∃ (f g : Fo) (m : Ma), ds = [.obj true (dF f)] ∧ In20 f ∧ f.disc < 0 ∧ LeadR f g m ∧ r = .obj true (dF g)) := by
  refine A.d_least_form.pfn (k := 8) sc_least_form (by rintro _ _ ⟨_, _, _, rfl, _⟩; rfl) fun f cdv Ar outer sh Hh E hX ds d h => ?_
  have nd : ∀ i, (XB T N_least_form "least_form" s_least_form f cdv Ar outer sh Hh E i).N.Nodup := fun _ => sc_least_form.nd
  obtain ⟨fo, g, m, rfl, hs, hd, hl, rfl⟩ := h
  refine jss_next (js_expr (je_call hX (ok_require_form A) (ja_cons (je_var 0) ja_nil) ⟨_, rfl, rfl⟩) rfl) ?_
  refine jss_next (js_expr (je_call hX (ok_require_short A) (ja_cons (je_slot hX (A.cls true) A.sl_own_coefficients (je_var 0)) ja_nil) ⟨_, rfl, hs, rfl⟩) rfl) ?_
  exact jss_one (js_ret (je_call hX (ok_least_made A) (ja_cons (je_slot hX (A.cls true) A.sl_own_coefficients (je_var 0)) ja_nil) ⟨_, _, _, rfl, hs.sm, hd, hl, rfl⟩) rfl)
end Fr
namespace Fr
open PySem PySem.Spec PyProof.Rows L2 StX
theorem ok_is_small_prime {T : Tx} (A : Al T) : PFn T "is_small_prime" 3 (fun ds r => ∃ p : Int, ds = [.int p] ∧ 2 ≤ p ∧ p < 4 ∧ r = .bl true) := by
  refine A.d_is_small_prime.pfn (k := 2) sc_is_small_prime (by rintro _ _ ⟨_, rfl, _⟩; rfl) fun f cdv Ar outer sh Hh E hX ds d h => ?_
  have nd : ∀ i, (XB T N_is_small_prime "is_small_prime" s_is_small_prime f cdv Ar outer sh Hh E i).N.Nodup := fun _ => sc_is_small_prime.nd
  obtain ⟨p, rfl, h1, h2, rfl⟩ := h
  have hb : p.natAbs < 10 ^ 60 := Nat.lt_trans (show p.natAbs < 10 by omega) (by decide)
  refine jss_one (js_ret (je_and (je_call hX (ok_is_integer A) (ja_cons (je_var 0) ja_nil) ⟨_, rfl, hb, rfl⟩) (je_and (je_leLe je_int (je_var 0) (je_glob hX A.c_MOST_PRIME)) (je_one (je_call hX (ok_is_prime_number A) (ja_cons (je_var 0) ja_nil) ⟨_, rfl, h1, h2, rfl⟩)))) (rbl ?_))
  rw [decide_eq_true h1, decide_eq_true (show p ≤ 10000 by omega)]
  rfl
theorem ok_require_prime {T : Tx} (A : Al T) : PFn T "require_prime" 4 (fun ds r => ∃ p : Int, ds = [.int p] ∧ 2 ≤ p ∧ p < 4 ∧ r = .non) := by
  refine A.d_require_prime.pfn (k := 3) sc_require_prime (by rintro _ _ ⟨_, rfl, _⟩; rfl) fun f cdv Ar outer sh Hh E hX ds d h => ?_
  have nd : ∀ i, (XB T N_require_prime "require_prime" s_require_prime f cdv Ar outer sh Hh E i).N.Nodup := fun _ => sc_require_prime.nd
  obtain ⟨p, rfl, h1, h2, rfl⟩ := h
  exact jss_one (js_if (jt_not (jt_val (je_call hX (ok_is_small_prime A) (ja_cons (je_var 0) ja_nil) ⟨_, rfl, h1, h2, rfl⟩))) (fun h => nomatch h) (fun _ => jss_nil rfl))
/-! ### places -/
def plL (p : Nat) : List (Int × Int) := (0, 1) :: (1, 0) :: (List.range (p - 1)).map fun i => (((i : Nat) : Int) + 1, 1)
theorem plL_sorted (p : Nat) : (plL p).Pairwise fun a b => SrtO.lexB b a = false := by
  unfold plL
  refine List.Pairwise.cons ?_ (List.Pairwise.cons ?_ ?_)
  · intro b hb
    rcases List.mem_cons.mp hb with rfl | hb
    · exact SrtO.lexB_no.mpr (by omega)
    · obtain ⟨i, _, rfl⟩ := List.mem_map.mp hb
      exact SrtO.lexB_no.mpr (by show _; simp only; omega)
  · intro b hb
    obtain ⟨i, _, rfl⟩ := List.mem_map.mp hb
    exact SrtO.lexB_no.mpr (by show _; simp only; omega)
  · rw [List.pairwise_map]
    refine List.Pairwise.imp ?_ List.pairwise_lt_range
    intro a b h
    exact SrtO.lexB_no.mpr (by show _; simp only; omega)
theorem plL_perm (p : Nat) (hp : 1 ≤ p) : (plL p).Perm ((1, 0) :: (List.range p).map fun i => (((i : Nat) : Int), 1)) := by
  obtain ⟨k, rfl⟩ : ∃ k, p = k + 1 := ⟨p - 1, by omega⟩
  have e : (List.range (k + 1)).map (fun i => (((i : Nat) : Int), (1 : Int))) = (0, 1) :: (List.range k).map fun i => (((i : Nat) : Int) + 1, 1) := by
    rw [List.range_succ_eq_map, List.map_cons, List.map_map]
    congr 1
  rw [e]
  exact List.Perm.swap _ _ _
theorem ok_places_at {T : Tx} (A : Al T) : PFn T "places_at" 1 (fun ds r => ∃ p : Int, ds = [.int p] ∧ 1 ≤ p ∧ p ≤ 100000 ∧ r = .lst ((plL p.toNat).map prD)) := by
  refine A.d_places_at.pfn (k := 0) sc_places_at (by rintro _ _ ⟨_, rfl, _⟩; rfl) fun f cdv Ar outer sh Hh E hX ds d h => ?_
  have nd : ∀ i, (XB T N_places_at "places_at" s_places_at f cdv Ar outer sh Hh E i).N.Nodup := fun _ => sc_places_at.nd
  obtain ⟨p, rfl, h1, h2, rfl⟩ := h
  refine jss_one (js_ret (je_sortPr (ks := (1, 0) :: (List.range p.toNat).map fun i => (((i : Nat) : Int), 1)) hX A.b_sorted (JE.eq (je_lst (ja_cons (je_glob hX A.c_END_steps) (ja_star hX (je_lc0 (src := rngD 0 p.toNat) 1 (fun d => match d with | .int x => prD (x, 1) | d => d) hX nd (jit_range1 hX A.b_range (je_var 0) ⟨by omega, by omega⟩) (by unfold rngD; rw [List.length_map, List.length_range]; omega) (fun d hd => ?_) (fun _ => blkOk_by rfl)) ja_nil)) ?_) ?_) (plL_sorted _) (plL_perm _ (by omega))) rfl)
  · unfold rngD at hd
    obtain ⟨i, _, rfl⟩ := List.mem_map.mp hd
    exact je_tup (ja_cons (je_var 1) (ja_cons je_int ja_nil))
  · rw [List.length_cons, List.length_append, List.length_map]
    unfold rngD
    rw [List.length_map, List.length_range]
    show p.toNat + 0 + 1 ≤ 1000000
    omega
  · rw [List.append_nil]
    unfold rngD
    rw [List.map_map, List.map_cons, List.map_map]
    congr 2
    refine List.map_congr_left fun i _ => ?_
    show prD (0 + (i : Int), 1) = prD ((i : Int), 1)
    rw [Int.zero_add]
theorem ok_is_place {T : Tx} (A : Al T) : PFn T "is_place" 3 (fun ds r => ∃ x : Int, ds = [.int 3, prD (x, 1)] ∧ (x = 1 ∨ x = 2) ∧ r = .bl true) := by
  refine A.d_is_place.pfn (k := 2) sc_is_place (by rintro _ _ ⟨_, rfl, _⟩; rfl) fun f cdv Ar outer sh Hh E hX ds d h => ?_
  have nd : ∀ i, (XB T N_is_place "is_place" s_is_place f cdv Ar outer sh Hh E i).N.Nodup := fun _ => sc_is_place.nd
  obtain ⟨x, rfl, hx, rfl⟩ := h
  have hb : ∀ i : Int, i = 1 ∨ i = 2 → i.natAbs < 10 ^ 60 := fun i h => Nat.lt_trans (show i.natAbs < 10 by omega) (by decide)
  refine jss_next (js_if (c := false) (JT.eq (jt_W (jw_or (jt_not (jt_val (je_isiB (x := prD (x, 1)) hX A.b_isinstance A.cls A.b_tuple bt_tuple (je_var 1) kit_tt))) (jw_or (jt_neI (je_lenT (l := [.int x, .int 1]) hX A.b_len (je_var 1)) je_int) (jw_or1 (jt_not (jt_val (je_all (l := [true, true]) hX A.b_all (je_lcL 2 (fun _ => .bl true) hX nd (jit_tup (src := [.int x, .int 1]) hX (je_var 1)) (he := fun d hd => ?_) (ok := fun _ => blkOk_by rfl))))))))) rfl) (fun h => nomatch h) (fun _ => jss_nil rfl)) ?_
  · simp only [List.mem_cons, List.not_mem_nil, or_false] at hd
    rcases hd with rfl | rfl
    · exact je_call (hX.blk _) (ok_is_integer A) (ja_cons (je_var 2) ja_nil) ⟨_, rfl, hb _ hx, rfl⟩
    · exact je_call (hX.blk _) (ok_is_integer A) (ja_cons (je_var 2) ja_nil) ⟨_, rfl, hb _ (.inl rfl), rfl⟩
  · refine jss_one (js_ret (je_or (je_eqD (x := prD (x, 1)) (y := dP 1 0) hX (je_var 1) (je_glob hX A.c_END_steps)) (je_one (je_and (je_eqI (je_ix (l := [.int x, .int 1]) hX (je_var 1) je_int 1 rfl rfl) je_int) (je_one (je_leLt je_int (je_ix (l := [.int x, .int 1]) hX (je_var 1) je_int 0 rfl rfl) (je_var 0)))))) (rbl ?_))
    rcases hx with rfl | rfl <;> simp [toPy, toPys, PyData.eqv, PyData.eqvAll, prD, dP]
/-! ### heavy places -/
def Fo.slope (f : Fo) (x : Int) : Int := 3 * f.a * x * x + 2 * f.b * x + f.c
def heavyB (f : Fo) (p : Int) (z : Int × Int) : Bool := decide (fAt f.a f.b f.c f.d z.1 z.2 % (p * p) = 0) && decide ((if z = (1, 0) then f.b else f.slope z.1) % p = 0)
theorem eqv_pr (z w : Int × Int) : PyData.eqv (toPy (prD z)) (toPy (prD w)) = decide (z = w) := by
  obtain ⟨a, b⟩ := z
  obtain ⟨c, d⟩ := w
  by_cases h1 : a = c <;> by_cases h2 : b = d <;> simp [toPy, toPys, PyData.eqv, PyData.eqvAll, prD, h1, h2]
theorem ok_slope_at {T : Tx} (A : Al T) : PFn T "slope_at" 1 (fun ds r => ∃ (f : Fo) (x : Int), ds = [dF f, .int x] ∧ SmF f ∧ Sm 200 x ∧ r = .int (f.slope x)) := by
  refine A.d_slope_at.pfn (k := 0) sc_slope_at (by rintro _ _ ⟨_, _, rfl, _⟩; rfl) fun f cdv Ar outer sh Hh E hX ds d h => ?_
  have nd : ∀ i, (XB T N_slope_at "slope_at" s_slope_at f cdv Ar outer sh Hh E i).N.Nodup := fun _ => sc_slope_at.nd
  obtain ⟨⟨a, b, c, d⟩, x, rfl, ⟨ha, hb, hc, hd⟩, hx, rfl⟩ := h
  dsimp only at ha hb hc hd
  exact jss_one (js_ret (je_add (je_add (je_mul (JI.mul (JI.mul (JI.int 1) (JI.x (je_ix (l := [.int a, .int b, .int c, .int d]) hX (je_var 0) je_int 0 rfl rfl) (ha.mono (by decide)))) (JI.v 1)) (JI.v 1)) (je_mul (JI.mul (JI.int 1) (JI.x (je_ix (l := [.int a, .int b, .int c, .int d]) hX (je_var 0) je_int 1 rfl rfl) (hb.mono (by decide)))) (JI.v 1))) (je_ix (l := [.int a, .int b, .int c, .int d]) hX (je_var 0) je_int 2 rfl rfl)) rfl)
theorem sm_slope {f : Fo} {x : Int} (hf : SmF f) (hx : Sm 200 x) : Sm 9000 (f.slope x) := by
  obtain ⟨ha, hb, hc, hd⟩ := hf
  unfold Fo.slope
  exact Sm.mono (by repeat first | assumption | exact Sm.lit | apply Sm.add | apply Sm.sub | apply Sm.mul | apply Sm.neg) (by decide)
theorem ok_is_heavy {T : Tx} (A : Al T) : PFn T "is_heavy" 2 (fun ds r => ∃ (f : Fo) (p : Int) (z : Int × Int), ds = [dF f, .int p, prD z] ∧ SmF f ∧ 2 ≤ p ∧ Sm 200 p ∧ Sm 200 z.1 ∧ Sm 200 z.2 ∧ r = .bl (heavyB f p z)) := by
  refine A.d_is_heavy.pfn (k := 1) sc_is_heavy (by rintro _ _ ⟨_, _, _, rfl, _⟩; rfl) fun f cdv Ar outer sh Hh E hX ds d h => ?_
  have nd : ∀ i, (XB T N_is_heavy "is_heavy" s_is_heavy f cdv Ar outer sh Hh E i).N.Nodup := fun _ => sc_is_heavy.nd
  obtain ⟨⟨a, b, c, d⟩, p, ⟨x, y⟩, rfl, hs, hp, sp, sx, sy, rfl⟩ := h
  obtain ⟨ha, hb, hc, hd⟩ := hs
  dsimp only at ha hb hc hd sx sy
  have hpp : 0 < p * p := Int.mul_pos (by omega) (by omega)
  have c1 : JT T (XB T N_is_heavy "is_heavy" s_is_heavy f cdv Ar outer sh Hh E) (startE N_is_heavy [dF ⟨a, b, c, d⟩, .int p, prD (x, y)]) (match defBody s_is_heavy with | [.If e _ _ _, _] => e | _ => .Constant .none 0 ⟨0, 0, 0, 0⟩) (!decide (fAt a b c d x y % (p * p) = 0)) :=
    jt_neI (je_mod (je_call hX (ok_form_at A) (ja_cons (je_var 0) (ja_cons (je_ix (l := [.int x, .int y]) hX (je_var 2) je_int 0 rfl rfl) (ja_cons (je_ix (l := [.int x, .int y]) hX (je_var 2) je_int 1 rfl rfl) ja_nil))) ⟨_, _, _, _, _, _, rfl, ha, hb, hc, hd, sx, sy, rfl⟩) (je_mul (JI.v 1) (JI.v 1)) hpp) je_int
  by_cases h0 : fAt a b c d x y % (p * p) = 0
  · refine jss_next (js_if (c := false) (c1.eq (by rw [decide_eq_true h0]; rfl)) (fun h => nomatch h) (fun _ => jss_nil rfl)) ?_
    refine jss_one (js_ret (je_eqI (je_mod (i := if (x, y) = ((1 : Int), (0 : Int)) then b else (Fo.mk a b c d).slope x) (JE.eq (je_if (c := decide ((x, y) = ((1 : Int), (0 : Int)))) ((jt_eqD (x := prD (x, y)) (y := prD (1, 0)) hX (je_var 2) (je_glob hX A.c_END_steps)).eq (eqv_pr _ _)) (je_ix (l := [.int a, .int b, .int c, .int d]) hX (je_var 0) je_int 1 rfl rfl) (je_call hX (ok_slope_at A) (ja_cons (je_var 0) (ja_cons (je_ix (l := [.int x, .int y]) hX (je_var 2) je_int 0 rfl rfl) ja_nil)) ⟨⟨a, b, c, d⟩, _, rfl, ⟨ha, hb, hc, hd⟩, sx, rfl⟩)) ?_) (je_var 1) (by omega)) je_int) (rbl ?_))
    · by_cases h1 : (x, y) = ((1 : Int), (0 : Int))
      · rw [decide_eq_true h1, if_pos h1]; rfl
      · rw [decide_eq_false h1, if_neg h1]; rfl
    · unfold heavyB
      rw [decide_eq_true h0, Bool.true_and]
  · refine jss_stop (js_if (c := true) (c1.eq (by rw [decide_eq_false h0]; rfl)) (fun _ => jss_one (js_ret je_bl (rbl ?_))) (fun h => nomatch h))
    unfold heavyB
    rw [decide_eq_false h0, Bool.false_and]
def Fo.up (f : Fo) (x : Int) : Fo := ⟨f.a * 3, 3 * f.a * x + f.b, f.slope x / 3, fAt f.a f.b f.c f.d x 1 / (3 * 3)⟩
theorem ok_numbers_above {T : Tx} (A : Al T) : PFn T "numbers_above" 2 (fun ds r => ∃ (f : Fo) (x : Int), ds = [dF f, .int 3, prD (x, 1)] ∧ SmF f ∧ Sm 200 x ∧ r = dF (f.up x)) := by
  refine A.d_numbers_above.pfn (k := 1) sc_numbers_above (by rintro _ _ ⟨_, _, rfl, _⟩; rfl) fun f cdv Ar outer sh Hh E hX ds d h => ?_
  have nd : ∀ i, (XB T N_numbers_above "numbers_above" s_numbers_above f cdv Ar outer sh Hh E i).N.Nodup := fun _ => sc_numbers_above.nd
  obtain ⟨⟨a, b, c, d⟩, x, rfl, hs, sx, rfl⟩ := h
  obtain ⟨ha, hb, hc, hd⟩ := hs
  dsimp only at ha hb hc hd
  have s1 : Sm 200 (1 : Int) := s200 (by decide)
  have s3 : Sm 200 (3 : Int) := s200 (by decide)
  show JSs T _ noM (startE N_numbers_above [dI4 a b c d, .int 3, .tup [.int x, .int 1]]) _ _
  refine jss_next (js_asg (je_var 0) (jg_tup hX (jgs_next (jg_name 3 nd rfl) (jgs_next (jg_name 4 nd rfl) (jgs_next (jg_name 5 nd rfl) (jgs_next (jg_name 6 nd rfl) (jgs_nil rfl))))))) ?_
  refine JSs.norm (ρ2 := ?r1) ?e1 ?h1
  case e1 => dsimp only [startE, startC, N_numbers_above, nTail, nSet0, nSetS, nMap, nMap0, nLen, nLen0, Nat.reduceAdd, Nat.reduceSub, nRep, nRep0, nApp, nApp0]; exact rfl
  refine jss_next (js_if (c := false) ((jt_eqD (x := prD (x, 1)) (y := prD (1, 0)) hX (je_var 2) (je_glob hX A.c_END_steps)).eq ?_) (fun h => nomatch h) (fun _ => jss_nil rfl)) ?_
  · rw [eqv_pr]
    exact decide_eq_false (by simp)
  refine jss_next (js_set 7 (je_ix (l := [.int x, .int 1]) hX (je_var 2) je_int 0 rfl rfl) rfl nd) ?_
  refine JSs.norm (ρ2 := ?r2) ?e2 ?h2
  case e2 => dsimp only [startE, startC, N_numbers_above, nTail, nSet0, nSetS, nMap, nMap0, nLen, nLen0, Nat.reduceAdd, Nat.reduceSub, nRep, nRep0, nApp, nApp0]; exact rfl
  exact jss_one (js_ret (je_tup (ja_cons (je_mul (JI.v 3) (JI.v 1)) (ja_cons (je_add (je_mul (JI.mul (JI.int 1) (JI.v 3)) (JI.v 7)) (je_var 4)) (ja_cons (je_div (je_call hX (ok_slope_at A) (ja_cons (je_var 0) (ja_cons (je_var 7) ja_nil)) ⟨⟨a, b, c, d⟩, _, rfl, ⟨ha, hb, hc, hd⟩, sx, rfl⟩) (JI.v 1) (by decide)) (ja_cons (je_div (je_call hX (ok_form_at A) (ja_cons (je_var 0) (ja_cons (je_var 7) (ja_cons je_int ja_nil))) ⟨_, _, _, _, _, _, rfl, ha, hb, hc, hd, sx, s1, rfl⟩) (JI.mul (JI.v 1) (JI.v 1)) (by decide)) ja_nil))))) rfl)
def divB (f : Fo) (p : Int) : Bool := decide (f.a % p = 0) && (decide (f.b % p = 0) && (decide (f.c % p = 0) && decide (f.d % p = 0)))
theorem ok_is_divided {T : Tx} (A : Al T) : PFn T "is_divided" 1 (fun ds r => ∃ (f : Fo) (p : Int), ds = [dF f, .int p] ∧ 2 ≤ p ∧ r = .bl (divB f p)) := by
  refine A.d_is_divided.pfn (k := 0) sc_is_divided (by rintro _ _ ⟨_, _, rfl, _⟩; rfl) fun f cdv Ar outer sh Hh E hX ds d h => ?_
  have nd : ∀ i, (XB T N_is_divided "is_divided" s_is_divided f cdv Ar outer sh Hh E i).N.Nodup := fun _ => sc_is_divided.nd
  obtain ⟨fo, p, rfl, hp, rfl⟩ := h
  refine jss_one (js_ret (je_all (l := [decide (fo.a % p = 0), decide (fo.b % p = 0), decide (fo.c % p = 0), decide (fo.d % p = 0)]) hX A.b_all (je_lcL 2 (fun d => match d with | .int i => .bl (decide (i % p = 0)) | d => d) hX nd (jit_tup (src := [.int fo.a, .int fo.b, .int fo.c, .int fo.d]) hX (je_var 0)) (he := fun d hd => ?_) (ok := fun _ => blkOk_by rfl))) (rbl ?_))
  · have : ∃ i : Int, d = .int i := by
      simp only [List.mem_cons, List.not_mem_nil, or_false] at hd
      rcases hd with rfl | rfl | rfl | rfl <;> exact ⟨_, rfl⟩
    obtain ⟨i, rfl⟩ := this
    exact je_eqI (je_mod (je_var 2) (je_var 1) (by omega)) je_int
  · simp [divB]
end Fr
namespace Fr
open PySem PySem.Spec PyProof.Rows L2 StX
theorem plL_mem {p : Nat} {z : Int × Int} (hp : 1 ≤ p) (h : z ∈ plL p) : z = (1, 0) ∨ (0 ≤ z.1 ∧ z.1 < p ∧ z.2 = 1) := by
  unfold plL at h
  rcases List.mem_cons.mp h with rfl | h
  · exact .inr ⟨by decide, by show (0 : Int) < p; omega, rfl⟩
  · rcases List.mem_cons.mp h with rfl | h
    · exact .inl rfl
    · obtain ⟨i, hi, rfl⟩ := List.mem_map.mp h
      have := List.mem_range.mp hi
      exact .inr ⟨by show (0 : Int) ≤ (i : Int) + 1; omega, by show ((i : Int) + 1) < p; omega, rfl⟩
theorem plL_sm {p : Int} {z : Int × Int} (hp : 2 ≤ p) (hp2 : p ≤ 100000) (h : z ∈ plL p.toNat) : Sm 200 z.1 ∧ Sm 200 z.2 := by
  have k : ∀ i : Int, i.natAbs < 1000000 → Sm 200 i := fun i h => Sm.k (Nat.lt_trans h (by decide))
  rcases plL_mem (by omega) h with rfl | ⟨h1, h2, h3⟩
  · exact ⟨k _ (by decide), k _ (by decide)⟩
  · exact ⟨k _ (by omega), k _ (by rw [h3]; decide)⟩
def hvD (f : Fo) (p : Int) : D → Bool
  | .tup [.int x, .int y] => heavyB f p (x, y)
  | _ => false
theorem hv_filter (f : Fo) (p : Int) : ∀ l : List (Int × Int), (l.map prD).filter (hvD f p) = (l.filter (heavyB f p)).map prD
  | [] => rfl
  | z :: l => by
    have e : hvD f p (prD z) = heavyB f p z := rfl
    rw [List.map_cons, List.filter_cons, List.filter_cons, e, hv_filter f p l]
    cases heavyB f p z <;> rfl
theorem hv_find (f : Fo) (p : Int) : ∀ l : List (Int × Int), (l.map prD).find? (hvD f p) = (l.find? (heavyB f p)).map prD
  | [] => rfl
  | z :: l => by
    have e : hvD f p (prD z) = heavyB f p z := rfl
    rw [List.map_cons, List.find?_cons, List.find?_cons, e, hv_find f p l]
    cases heavyB f p z <;> rfl
theorem ok_heavy_places {T : Tx} (A : Al T) : PFn T "heavy_places" 5 (fun ds r => ∃ (f : Fo) (p : Int), ds = [.obj true (dF f), .int p] ∧ SmF f ∧ 2 ≤ p ∧ p < 4 ∧ r = .tup (((plL p.toNat).filter (heavyB f p)).map prD)) := by
  refine A.d_heavy_places.pfn (k := 4) sc_heavy_places (by rintro _ _ ⟨_, _, rfl, _⟩; rfl) fun f cdv Ar outer sh Hh E hX ds d h => ?_
  have nd : ∀ i, (XB T N_heavy_places "heavy_places" s_heavy_places f cdv Ar outer sh Hh E i).N.Nodup := fun _ => sc_heavy_places.nd
  obtain ⟨fo, p, rfl, hs, hp, hp2, rfl⟩ := h
  have sp : Sm 200 p := Sm.k (Nat.lt_trans (show p.natAbs < 10 by omega) (by decide))
  refine jss_next (js_expr (je_call hX (ok_require_form A) (ja_cons (je_var 0) ja_nil) ⟨_, rfl, rfl⟩) rfl) ?_
  refine jss_next (js_expr (je_call hX (ok_require_prime A) (ja_cons (je_var 1) ja_nil) ⟨_, rfl, hp, hp2, rfl⟩) rfl) ?_
  refine jss_one (js_ret (je_tupleL hX A.b_tuple (JE.eq (je_lc (src := (plL p.toNat).map prD) 2 (hvD fo p) (fun d => d) hX nd (jit_list hX (je_call hX (ok_places_at A) (ja_cons (je_var 1) ja_nil) ⟨_, rfl, by omega, by omega, rfl⟩)) (by rw [List.length_map]; unfold plL; simp; omega) (.inr ⟨_, rfl, fun d hd => ?_⟩) (fun d _ _ => je_var 2) (fun _ => blkOk_by rfl)) ?_)) rfl)
  · obtain ⟨z, hz, rfl⟩ := List.mem_map.mp hd
    obtain ⟨z1, z2⟩ := plL_sm hp (by omega) hz
    exact jt_val (je_call (hX.blk _) (ok_is_heavy A) (ja_cons (je_slot (hX.blk _) (A.cls true) A.sl_own_coefficients (je_var 0)) (ja_cons (je_var 1) (ja_cons (je_var 2) ja_nil))) ⟨_, _, z, rfl, hs, hp, sp, z1, z2, rfl⟩)
  · rw [hv_filter, List.map_id']
theorem ok_above {T : Tx} (A : Al T) : PFn T "above" 8 (fun ds r => ∃ (f : Fo) (x : Int), ds = [.obj true (dF f), .int 3, prD (x, 1)] ∧ SmF f ∧ (x = 1 ∨ x = 2) ∧ heavyB f 3 (x, 1) = true ∧ r = .obj true (dF (f.up x))) := by
  refine A.d_above.pfn (k := 7) sc_above (by rintro _ _ ⟨_, _, rfl, _⟩; rfl) fun f cdv Ar outer sh Hh E hX ds d h => ?_
  have nd : ∀ i, (XB T N_above "above" s_above f cdv Ar outer sh Hh E i).N.Nodup := fun _ => sc_above.nd
  obtain ⟨fo, x, rfl, hs, hx, hh, rfl⟩ := h
  have sx : Sm 200 x := Sm.k (Nat.lt_trans (show x.natAbs < 10 by omega) (by decide))
  have s1 : Sm 200 (1 : Int) := s200 (by decide)
  have s3 : Sm 200 (3 : Int) := s200 (by decide)
  refine jss_next (js_expr (je_call hX (ok_require_form A) (ja_cons (je_var 0) ja_nil) ⟨_, rfl, rfl⟩) rfl) ?_
  refine jss_next (js_expr (je_call hX (ok_require_prime A) (ja_cons (je_var 1) ja_nil) ⟨_, rfl, by decide, by decide, rfl⟩) rfl) ?_
  refine jss_next (js_if (c := false) ((jt_W (jw_or (jt_not (jt_val (je_call hX (ok_is_place A) (ja_cons (je_var 1) (ja_cons (je_var 2) ja_nil)) ⟨_, rfl, hx, rfl⟩))) (jw_or1 (jt_not (jt_val (je_call hX (ok_is_heavy A) (ja_cons (je_slot hX (A.cls true) A.sl_own_coefficients (je_var 0)) (ja_cons (je_var 1) (ja_cons (je_var 2) ja_nil))) ⟨fo, 3, (x, 1), rfl, hs, by decide, s3, sx, s1, rfl⟩)))))).eq (by rw [hh]; rfl)) (fun h => nomatch h) (fun _ => jss_nil rfl)) ?_
  exact jss_one (js_ret (je_call hX (ok_made_form A) (ja_cons (je_call hX (ok_numbers_above A) (ja_cons (je_slot hX (A.cls true) A.sl_own_coefficients (je_var 0)) (ja_cons (je_var 1) (ja_cons (je_var 2) ja_nil))) ⟨_, _, rfl, hs, sx, rfl⟩) ja_nil) ⟨_, .inl rfl, rfl⟩) rfl)
theorem ok_require_stepped {T : Tx} (A : Al T) : PFn T "require_stepped" 4 (fun ds r => ∃ f : Fo, ds = [.obj true (dF f)] ∧ SmF f ∧ f.disc ≠ 0 ∧ f.disc.natAbs ≤ 100000000 ∧ r = .non) := by
  refine A.d_require_stepped.pfn (k := 3) sc_require_stepped (by rintro _ _ ⟨_, rfl, _⟩; rfl) fun f cdv Ar outer sh Hh E hX ds d h => ?_
  have nd : ∀ i, (XB T N_require_stepped "require_stepped" s_require_stepped f cdv Ar outer sh Hh E i).N.Nodup := fun _ => sc_require_stepped.nd
  obtain ⟨fo, rfl, hs, h0, h1, rfl⟩ := h
  refine jss_next (js_expr (je_call hX (ok_require_form A) (ja_cons (je_var 0) ja_nil) ⟨_, rfl, rfl⟩) rfl) ?_
  refine jss_next (js_set 1 (je_abs hX A.b_abs (je_prop hX (A.cls true) (ok_Form_discriminant A) (je_var 0) ⟨_, rfl, hs, rfl⟩)) rfl nd) ?_
  refine JSs.norm (ρ2 := ?r1) ?e1 ?h1
  case e1 => dsimp only [startE, startC, N_require_stepped, nTail, nSet0, nSetS, nMap, nMap0, nLen, nLen0, Nat.reduceAdd, Nat.reduceSub, nRep, nRep0, nApp, nApp0]; exact rfl
  have e : (if fo.disc < 0 then -fo.disc else fo.disc) ≠ 0 ∧ (if fo.disc < 0 then -fo.disc else fo.disc) ≤ 100000000 := by split <;> omega
  refine jss_next (js_if (c := false) ((jt_eqI (je_var 1) je_int).eq (decide_eq_false e.1)) (fun h => nomatch h) (fun _ => jss_nil rfl)) ?_
  exact jss_one (js_if (c := false) ((jt_gt (je_var 1) (je_glob hX A.c_MAX_STEPPED)).eq (decide_eq_false (by omega))) (fun h => nomatch h) (fun _ => jss_nil rfl))
/-! ### the primes that may bar -/
noncomputable def dpM : Nat → Int → Int → List Int → List Int
  | 0, _, _, acc => acc
  | z + 1, n, p, acc => if p * p ≤ n then (if n % p = 0 then dpM z (tk n p).2 (p + 1) (if 1 < ((tk n p).1 : Int) then acc ++ [p] else acc) else dpM z n (p + 1) acc) else acc
noncomputable def dpL (n : Int) : List Int := dpM 10000 n 2 []
theorem ok_double_primes {T : Tx} (A : Al T) : PFn T "double_primes" 1 (fun ds r => ∃ n : Int, ds = [.int n] ∧ 1 ≤ n ∧ n ≤ 100000000 ∧ r = .lst ((dpL n).map .int)) := by
  refine A.d_double_primes.pfn (k := 0) sc_double_primes (by rintro _ _ ⟨_, rfl, _⟩; rfl) fun f cdv Ar outer sh Hh E hX ds d h => ?_
  have nd : ∀ i, (XB T N_double_primes "double_primes" s_double_primes f cdv Ar outer sh Hh E i).N.Nodup := fun _ => sc_double_primes.nd
  obtain ⟨n, rfl, hn1, hn2, rfl⟩ := h
  refine jss_openPar 1 2 hX nd je_int fun L => ?_
  refine jss_cons (Ψ := fun ρ' => ∃ x y z, ρ' = [x, some (.cl L ((dpL n).map .int)), y, z]) (js_while (fun _ => noPass) (fun z ρ' => ∃ (m p : Int) (acc : List Int) (k : Option Sl), ρ' = [some (.d (.int m)), some (.cl L (acc.map .int)), some (.d (.int p)), k] ∧ plainS k = true ∧ 1 ≤ m ∧ m ≤ 100000000 ∧ 2 ≤ p ∧ p ≤ 20000 ∧ p + z = 10002 ∧ acc.length + z ≤ 10000 ∧ dpM z m p acc = dpL n) 10000 ⟨n, 2, [], none, rfl, rfl, hn1, hn2, by decide, by decide, by decide, by decide, rfl⟩ ?_) ?_
  · rintro z ρ' ⟨m, p, acc, k, rfl, pk, hm1, hm2, hp1, hp2, hpz, hacc, hd⟩
    have sp : Sm 200 p := Sm.k (Nat.lt_trans (show p.natAbs < 100000 by omega) (by decide))
    have hp0 : 0 < p := by omega
    refine ⟨_, (jt_le (je_mul (JI.v 2) (JI.v 2)) (je_var 0)), fun h => ?_, fun h => ?_⟩
    · have h : p * p ≤ m := of_decide_eq_true h
      match z, hpz, hacc, hd with
      | 0, hpz, _, _ =>
        have := Int.mul_le_mul (show (10002 : Int) ≤ p by omega) (show (10002 : Int) ≤ p by omega) (by decide) (by omega)
        omega
      | z + 1, hpz, hacc, hd =>
      have hd : dpM (z + 1) m p acc = dpL n := hd
      rw [dpM, if_pos h] at hd
      have pt := tk_pos hm1 hp1
      refine jss_cons (Ψ := fun ρ' => ∃ (m' : Int) (acc' : List Int) (k' : Option Sl), ρ' = [some (.d (.int m')), some (.cl L (acc'.map .int)), some (.d (.int p)), k'] ∧ plainS k' = true ∧ 1 ≤ m' ∧ m' ≤ 100000000 ∧ acc'.length ≤ acc.length + 1 ∧ dpM z m' (p + 1) acc' = dpL n) (js_if (jt_eqI (je_mod (je_var 0) (je_var 2) (by first | decide | assumption | omega)) je_int) (fun h2 => ?_) (fun h2 => jss_nil ?_)) ?_
      · have h2 : m % p = 0 := of_decide_eq_true h2
        rw [if_pos h2] at hd
        refine jss_next (js_set 3 je_int rfl nd) ?_
        show JSs T _ _ [some (.d (.int m)), some (.cl L (acc.map .int)), some (.d (.int p)), some (.d (.int 0))] _ _
        refine jss_cons (Ψ := fun ρ' => ρ' = [some (.d (.int (tk m p).2)), some (.cl L (acc.map .int)), some (.d (.int p)), some (.d (.int (tk m p).1))]) (js_while (fun _ => noPass) (fun y ρ' => ∃ (j : Nat) (x : Int), ρ' = [some (.d (.int x)), some (.cl L (acc.map .int)), some (.d (.int p)), some (.d (.int j))] ∧ m = p ^ j * x ∧ 1 ≤ x ∧ y = x.toNat) m.toNat ⟨0, m, rfl, by simp, hm1, rfl⟩ ?_) ?_
        · rintro y ρ' ⟨j, x, rfl, hx, hx1, rfl⟩
          refine ⟨_, (jt_eqI (je_mod (je_var 0) (je_var 2) (by first | decide | assumption | omega)) je_int), fun h => ?_, fun h => ?_⟩
          · have h0 : x % p = 0 := of_decide_eq_true h
            have hq := Int.mul_ediv_cancel' (Int.dvd_of_emod_eq_zero h0)
            have hq1 : 1 ≤ x / p := by
              rcases Int.lt_or_le (x / p) 1 with q | q
              · have := Int.mul_le_mul_of_nonneg_left (show x / p ≤ 0 by omega) (show 0 ≤ p by omega)
                omega
              · exact q
            have hlt : x / p < x := by
              have := Int.mul_le_mul_of_nonneg_right hp1 (show 0 ≤ x / p by omega)
              omega
            refine jss_one (js_par (i1 := 0) (i2 := 3) hX nd (ja_cons (je_div (je_var 0) (JI.v 2) (by first | decide | assumption | omega)) (ja_cons (je_add (je_var 3) je_int) ja_nil)) ⟨(x / p).toNat, by omega, j + 1, x / p, ?_, ?_, hq1, rfl⟩)
            · show [_, _, _, some (Sl.d (.int ((j : Int) + 1)))] = _
              simp
            · rw [hx, Int.pow_succ, Int.mul_assoc, hq]
          · have h0 : x % p ≠ 0 := of_decide_eq_false h
            obtain ⟨e1, e2⟩ := (tk_spec hm1 hp1).uniq ⟨hx, h0⟩ hp1
            rw [e1, e2]
        · rintro ρ' rfl
          refine jss_one (js_if (jt_gt (je_var 3) je_int) (fun h3 => ?_) (fun h3 => jss_nil ?_))
          · rw [if_pos (of_decide_eq_true h3)] at hd
            refine jss_one (js_append 1 hX (je_var 2) ?_ (.inr rfl) rfl rfl ⟨(tk m p).2, acc ++ [p], some (.d (.int (tk m p).1)), ?_, rfl, pt.1, by omega, ?_, hd⟩)
            · rw [List.length_map]; omega
            · rw [List.map_append]; rfl
            · rw [List.length_append]; exact Nat.le_refl _
          · rw [if_neg (of_decide_eq_false h3)] at hd
            exact ⟨(tk m p).2, acc, _, rfl, rfl, pt.1, by omega, Nat.le_succ _, hd⟩
      · have h2 : m % p ≠ 0 := of_decide_eq_false h2
        rw [if_neg h2] at hd
        exact ⟨m, acc, k, rfl, pk, hm1, hm2, Nat.le_succ _, hd⟩
      · rintro ρ' ⟨m', acc', k', rfl, pk', g1, g2, g3, g4⟩
        exact jss_one (js_augI 2 (fun _ => ip_add) nd rfl je_int ⟨z, Nat.lt_succ_self _, m', p + 1, acc', k', rfl, pk', g1, g2, by omega, by omega, by omega, by omega, g4⟩)
    · have h : ¬ p * p ≤ m := of_decide_eq_false h
      have e : acc = dpL n := by
        rw [← hd]
        cases z with
        | zero => rfl
        | succ z => rw [dpM, if_neg h]
      refine ⟨some (.d (.int m)), some (.d (.int p)), k, ?_⟩
      rw [← e]
  · rintro ρ' ⟨x, y, z, rfl⟩
    exact jss_one (js_retC 1 ⟨_, .cl _ rfl, fun _ => rfl⟩)
end Fr
namespace Fr
open PySem PySem.Spec PyProof.Rows L2 StX
def heavyAt (f : Fo) (p : Int) : D := match (plL p.toNat).find? (heavyB f p) with | some z => prD z | none => .non
def barD (f : Fo) (p : Int) : D := if divB f p = true then .tup [.str "content", .int p] else match (plL p.toNat).find? (heavyB f p) with | some z => .tup [.str "place", .int p, prD z] | none => .non
theorem ok_bar_at {T : Tx} (A : Al T) : PFn T "bar_at" 5 (fun ds r => ∃ (f : Fo) (p : Int), ds = [dF f, .int p] ∧ SmF f ∧ 2 ≤ p ∧ p ≤ 20000 ∧ r = barD f p) := by
  refine A.d_bar_at.pfn (k := 4) sc_bar_at (by rintro _ _ ⟨_, _, rfl, _⟩; rfl) fun f c P Ar outer sh Hh E TB hP hX ds d h => ?_
  have nd : ∀ i, (XB T N_bar_at "bar_at" s_bar_at f (.ref c) Ar outer sh Hh E i).N.Nodup := fun _ => sc_bar_at.nd
  obtain ⟨fo, p, rfl, hs, hp, hp2, rfl⟩ := h
  have sp : Sm 200 p := Sm.k (Nat.lt_trans (show p.natAbs < 100000 by omega) (by decide))
  by_cases h : divB fo p = true
  · refine jss_stop (js_if (c := true) ((jt_val (je_call hX (ok_is_divided A) (ja_cons (je_var 0) (ja_cons (je_var 1) ja_nil)) ⟨fo, p, rfl, hp, rfl⟩)).eq h) (fun _ => jss_one (js_ret (je_tup (ja_cons (je_glob hX A.c_CONTENT) (ja_cons (je_var 1) ja_nil))) ?_)) (fun h => nomatch h))
    show Sl.d _ = Sl.d _
    unfold barD
    rw [if_pos h]
  refine jss_next (js_if (c := false) ((jt_val (je_call hX (ok_is_divided A) (ja_cons (je_var 0) (ja_cons (je_var 1) ja_nil)) ⟨fo, p, rfl, hp, rfl⟩)).eq (by simpa using h)) (fun h => nomatch h) (fun _ => jss_nil rfl)) ?_
  refine jss_next (js_set 2 (JE.eq (je_nextG (k := 2) (own := [("place", 2)]) (g := gName 2) (fr := fun d => _) (src := (plL p.toNat).map prD) (t := hvD fo p) (f := fun d => d) hX A.b_next TB hP (fun _ => rfl) nd ?_ (jit_list hX (je_call hX (ok_places_at A) (ja_cons (je_var 1) ja_nil) ⟨_, rfl, by omega, by omega, rfl⟩)) (fun i => pg_name (nd i.1) rfl (Or.inl rfl) (.inr rfl)) (fun _ _ => lcg_name) (.inr ⟨_, rfl, fun d hd => ?_⟩) (fun d hd _ => je_var 2)) (show _ = heavyAt fo p from ?_)) rfl nd) ?_
  · exact fun _ => ⟨blkOk_by rfl, by decide⟩
  · obtain ⟨z, hz, rfl⟩ := List.mem_map.mp hd
    obtain ⟨z1, z2⟩ := plL_sm hp (by omega) hz
    exact jt_val (je_call (hX.gen _) (ok_is_heavy A) (ja_cons (je_var 0) (ja_cons (je_var 1) (ja_cons (je_var 2) ja_nil))) ⟨fo, p, z, rfl, hs, hp, sp, z1, z2, rfl⟩)
  · unfold foundD heavyAt
    rw [hv_find]
    cases (plL p.toNat).find? (heavyB fo p) <;> rfl
  · refine jss_one (js_ret (je_if (c := isNon (heavyAt fo p)) (jt_isN (je_var 2)) je_non (je_tup (ja_cons (je_glob hX A.c_PLACE) (ja_cons (je_var 1) (ja_cons (je_var 2) ja_nil))))) ?_)
    show Sl.d _ = Sl.d _
    unfold barD
    rw [if_neg h]
    unfold heavyAt
    cases (plL p.toNat).find? (heavyB fo p) <;> rfl
theorem dpM_ok : ∀ (z : Nat) (n p : Int) (acc : List Int), p + z ≤ 20000 → 2 ≤ p → acc.length + z ≤ 1000000 → (∀ q ∈ acc, 2 ≤ q ∧ q ≤ 20000) → (∀ q ∈ dpM z n p acc, 2 ≤ q ∧ q ≤ 20000) ∧ (dpM z n p acc).length ≤ 1000000
  | 0, _, _, _, _, _, hl, h => ⟨h, by rw [dpM]; omega⟩
  | z + 1, n, p, acc, hz, hp, hl, h => by
    rw [dpM]
    split
    · split
      · refine dpM_ok z _ _ _ (by omega) (by omega) ?_ ?_
        · split
          · rw [List.length_append]; simp; omega
          · omega
        · split
          · intro q hq
            rcases List.mem_append.mp hq with hq | hq
            · exact h q hq
            · obtain rfl := List.mem_singleton.mp hq
              omega
          · exact h
      · exact dpM_ok z _ _ _ (by omega) (by omega) (by omega) h
    · exact ⟨h, by omega⟩
theorem dpL_ok {n : Int} (_ : 1 ≤ n) (_ : n ≤ 100000000) : (∀ q ∈ dpL n, 2 ≤ q ∧ q ≤ 20000) ∧ (dpL n).length ≤ 1000000 := dpM_ok 10000 n 2 [] (by decide) (by decide) (by decide) (fun _ h => by simp at h)
def firstBar (f : Fo) (ps : List Int) : D := match (ps.map (barD f)).find? (fun d => !isNon d) with | some d => d | none => .non
theorem ok_first_bar {T : Tx} (A : Al T) : PFn T "first_bar" 6 (fun ds r => ∃ (f : Fo) (ps : List Int), ds = [dF f, .lst (ps.map .int)] ∧ SmF f ∧ ps.length ≤ 1000000 ∧ (∀ p ∈ ps, 2 ≤ p ∧ p ≤ 20000) ∧ r = firstBar f ps) := by
  refine A.d_first_bar.pfn (k := 5) sc_first_bar (by rintro _ _ ⟨_, _, rfl, _⟩; rfl) fun f c P Ar outer sh Hh E TB hP hX ds d h => ?_
  have nd : ∀ i, (XB T N_first_bar "first_bar" s_first_bar f (.ref c) Ar outer sh Hh E i).N.Nodup := fun _ => sc_first_bar.nd
  obtain ⟨fo, ps, rfl, hs, hl, hp, rfl⟩ := h
  refine jss_one (js_ret (JE.eq (je_nextG (k := 3) (own := [("one", 2)]) (g := gName 2) (fr := fun d => _) (src := ps.map (barD fo)) (t := fun d => !isNon d) (f := fun d => d) hX A.b_next TB hP (fun _ => rfl) nd (fun _ => ⟨blkOk_by rfl, by decide⟩) (jit_list hX (JE.eq (je_lc0 (src := ps.map .int) 3 (fun d => match d with | .int p => barD fo p | d => d) hX nd (jit_list hX (je_var 1)) (by rw [List.length_map]; exact hl) (fun d hd => ?_) (fun _ => blkOk_by rfl)) ?_)) (fun i => pg_name (nd i.1) rfl (Or.inl rfl) (.inr rfl)) (fun _ _ => lcg_name) (.inr ⟨_, rfl, fun d hd => ?_⟩) (fun d hd _ => je_var 2)) (show _ = firstBar fo ps from ?_)) rfl)
  · obtain ⟨q, hq, rfl⟩ := List.mem_map.mp hd
    exact je_call (hX.blk _) (ok_bar_at A) (ja_cons (je_var 0) (ja_cons (je_var 3) ja_nil)) ⟨fo, q, rfl, hs, (hp q hq).1, (hp q hq).2, rfl⟩
  · rw [List.map_map]
    rfl
  · exact (jt_notN (je_var 2))
  · unfold foundD firstBar
    cases (ps.map (barD fo)).find? (fun d => !isNon d) <;> rfl
theorem ok_bar {T : Tx} (A : Al T) : PFn T "bar" 7 (fun ds r => ∃ f : Fo, ds = [.obj true (dF f)] ∧ SmF f ∧ f.disc ≠ 0 ∧ f.disc.natAbs ≤ 100000000 ∧ r = firstBar f (dpL (if f.disc < 0 then -f.disc else f.disc))) := by
  refine A.d_bar.pfn (k := 6) sc_bar (by rintro _ _ ⟨_, rfl, _⟩; rfl) fun f cdv Ar outer sh Hh E hX ds d h => ?_
  have nd : ∀ i, (XB T N_bar "bar" s_bar f cdv Ar outer sh Hh E i).N.Nodup := fun _ => sc_bar.nd
  obtain ⟨fo, rfl, hs, h0, h1, rfl⟩ := h
  refine jss_next (js_expr (je_call hX (ok_require_stepped A) (ja_cons (je_var 0) ja_nil) ⟨_, rfl, hs, h0, h1, rfl⟩) rfl) ?_
  have e : 1 ≤ (if fo.disc < 0 then -fo.disc else fo.disc) ∧ (if fo.disc < 0 then -fo.disc else fo.disc) ≤ 100000000 := by split <;> omega
  obtain ⟨d1, d2⟩ := dpL_ok e.1 e.2
  exact jss_one (js_ret (je_call hX (ok_first_bar A) (ja_cons (je_slot hX (A.cls true) A.sl_own_coefficients (je_var 0)) (ja_cons (je_call hX (ok_double_primes A) (ja_cons (je_abs hX A.b_abs (je_prop hX (A.cls true) (ok_Form_discriminant A) (je_var 0) ⟨_, rfl, hs, rfl⟩)) ja_nil) ⟨_, rfl, e.1, e.2, rfl⟩) ja_nil)) ⟨fo, _, rfl, hs, d2, d1, rfl⟩) rfl)
theorem ok_is_greatest {T : Tx} (A : Al T) : PFn T "is_greatest" 8 (fun ds r => ∃ f : Fo, ds = [.obj true (dF f)] ∧ SmF f ∧ f.disc ≠ 0 ∧ f.disc.natAbs ≤ 100000000 ∧ r = .bl (isNon (firstBar f (dpL (if f.disc < 0 then -f.disc else f.disc))))) := by
  refine A.d_is_greatest.pfn (k := 7) sc_is_greatest (by rintro _ _ ⟨_, rfl, _⟩; rfl) fun f cdv Ar outer sh Hh E hX ds d h => ?_
  have nd : ∀ i, (XB T N_is_greatest "is_greatest" s_is_greatest f cdv Ar outer sh Hh E i).N.Nodup := fun _ => sc_is_greatest.nd
  obtain ⟨fo, rfl, hs, h0, h1, rfl⟩ := h
  exact jss_one (js_ret (je_isN (je_call hX (ok_bar A) (ja_cons (je_var 0) ja_nil) ⟨_, rfl, hs, h0, h1, rfl⟩)) rfl)
end Fr
namespace Fr
open PySem PySem.Spec PyProof.Rows L2 StX
def placeD (x : Int) : D := .tup [.str "place", .int 3, prD (x, 1)]
def aboveD (x : Int) : D := .tup [.str "above", .int 3, prD (x, 1)]
theorem ok_step_of {T : Tx} (A : Al T) : PFn T "step_of" 1 (fun ds r => ∃ x : Int, ds = [placeD x] ∧ r = aboveD x) := by
  refine A.d_step_of.pfn (k := 0) sc_step_of (by rintro _ _ ⟨_, rfl, _⟩; rfl) fun f cdv Ar outer sh Hh E hX ds d h => ?_
  have nd : ∀ i, (XB T N_step_of "step_of" s_step_of f cdv Ar outer sh Hh E i).N.Nodup := fun _ => sc_step_of.nd
  obtain ⟨x, rfl, rfl⟩ := h
  exact jss_one (js_ret (JE.eq (je_if (c := false) ((jt_eqS (je_ix (l := [.str "place", .int 3, prD (x, 1)]) hX (je_var 0) je_int 0 rfl rfl) (je_glob hX A.c_CONTENT)).eq (by decide)) (je_tup (l := [.str "part", .int 3]) (ja_cons (je_glob hX A.c_PART) (ja_cons (je_ix (l := [.str "place", .int 3, prD (x, 1)]) hX (je_var 0) je_int 1 rfl rfl) ja_nil))) (je_tup (l := [.str "above", .int 3, prD (x, 1)]) (ja_cons (je_glob hX A.c_ABOVE) (ja_cons (je_ix (l := [.str "place", .int 3, prD (x, 1)]) hX (je_var 0) je_int 1 rfl rfl) (ja_cons (je_ix (l := [.str "place", .int 3, prD (x, 1)]) hX (je_var 0) je_int 2 rfl rfl) ja_nil))))) rfl) rfl)
theorem ok_numbers_behind {T : Tx} (A : Al T) : PFn T "numbers_behind" 3 (fun ds r => ∃ (f : Fo) (x : Int), ds = [dF f, aboveD x] ∧ SmF f ∧ Sm 200 x ∧ r = dF (f.up x)) := by
  refine A.d_numbers_behind.pfn (k := 2) sc_numbers_behind (by rintro _ _ ⟨_, _, rfl, _⟩; rfl) fun f cdv Ar outer sh Hh E hX ds d h => ?_
  have nd : ∀ i, (XB T N_numbers_behind "numbers_behind" s_numbers_behind f cdv Ar outer sh Hh E i).N.Nodup := fun _ => sc_numbers_behind.nd
  obtain ⟨fo, x, rfl, hs, hx, rfl⟩ := h
  refine jss_next (js_if (c := false) ((jt_eqS (je_ix (l := [.str "above", .int 3, prD (x, 1)]) hX (je_var 1) je_int 0 rfl rfl) (je_glob hX A.c_PART)).eq (by decide)) (fun h => nomatch h) (fun _ => jss_nil rfl)) ?_
  exact jss_one (js_ret (je_call hX (ok_numbers_above A) (ja_cons (je_var 0) (ja_cons (je_ix (l := [.str "above", .int 3, prD (x, 1)]) hX (je_var 1) je_int 1 rfl rfl) (ja_cons (je_ix (l := [.str "above", .int 3, prD (x, 1)]) hX (je_var 1) je_int 2 rfl rfl) ja_nil))) ⟨fo, x, rfl, hs, hx, rfl⟩) rfl)
/-- the primes that may bar f -/
noncomputable def barP (f : Fo) : List Int := dpL (if f.disc < 0 then -f.disc else f.disc)
/-- the way up: no step, or one -/
def WayR (f : Fo) (l : List D) (g : Fo) : Prop := (firstBar f (barP f) = .non ∧ l = [] ∧ g = f) ∨ ∃ x, (x = 1 ∨ x = 2) ∧ firstBar f (barP f) = placeD x ∧ SmF (f.up x) ∧ firstBar (f.up x) (barP f) = .non ∧ l = [aboveD x] ∧ g = f.up x
theorem ok_way_up {T : Tx} (A : Al T) : PFn T "way_up" 7 (fun ds r => ∃ (f : Fo) (l : List D) (g : Fo), ds = [.obj true (dF f)] ∧ SmF f ∧ f.disc ≠ 0 ∧ f.disc.natAbs ≤ 100000000 ∧ WayR f l g ∧ r = .tup [.lst l, dF g]) := by
  refine A.d_way_up.pfn (k := 6) sc_way_up (by rintro _ _ ⟨_, _, _, rfl, _⟩; rfl) fun f cdv Ar outer sh Hh E hX ds d h => ?_
  have nd : ∀ i, (XB T N_way_up "way_up" s_way_up f cdv Ar outer sh Hh E i).N.Nodup := fun _ => sc_way_up.nd
  obtain ⟨fo, l, g, rfl, hs, h0, h1, hw, rfl⟩ := h
  have e : 1 ≤ (if fo.disc < 0 then -fo.disc else fo.disc) ∧ (if fo.disc < 0 then -fo.disc else fo.disc) ≤ 100000000 := by split <;> omega
  obtain ⟨d1, d2⟩ := dpL_ok e.1 e.2
  refine jss_openPar3 1 2 3 hX nd (je_slot hX (A.cls true) A.sl_own_coefficients (je_var 0)) (je_call hX (ok_double_primes A) (ja_cons (je_abs hX A.b_abs (je_prop hX (A.cls true) (ok_Form_discriminant A) (je_var 0) ⟨_, rfl, hs, rfl⟩)) ja_nil) ⟨_, rfl, e.1, e.2, rfl⟩) fun L => ?_
  show JSs T _ _ [some (.d (.obj true (dF fo))), some (.d (dF fo)), some (.d (.lst ((barP fo).map .int))), some (.cl L []), none] _ _
  refine jss_cons (Ψ := fun ρ' => ρ' = [some (.d (.obj true (dF fo))), some (.d (dF g)), some (.d (.lst ((barP fo).map .int))), some (.cl L l), some (.d .non)]) (js_whileN 4 (fun _ => noPass) (fun z ρ' => ∃ (f' : Fo) (l' : List D) (t : Option Sl), ρ' = [some (.d (.obj true (dF fo))), some (.d (dF f')), some (.d (.lst ((barP fo).map .int))), some (.cl L l'), t] ∧ SmF f' ∧ ((z = 1 ∧ f' = fo ∧ l' = []) ∨ (z = 0 ∧ f' = g ∧ l' = l ∧ firstBar g (barP fo) = .non))) 1 ⟨fo, [], none, rfl, hs, .inl ⟨rfl, rfl, rfl⟩⟩ nd ?_) ?_
  · rintro z ρ' ⟨f', l', t, rfl, hf', hz⟩
    refine ⟨_, je_call hX (ok_first_bar A) (ja_cons (je_var 1) (ja_cons (je_var 2) ja_nil)) ⟨f', _, rfl, hf', d2, d1, rfl⟩, fun hn => ?_, fun hn => ?_⟩
    · rcases hz with ⟨rfl, rfl, rfl⟩ | ⟨rfl, rfl, rfl, hb⟩
      · rcases hw with ⟨hb, _⟩ | ⟨x, hx, hb, su, hb2, rfl, rfl⟩
        · have hn : isNon (firstBar f' (barP f')) = false := hn
          rw [hb] at hn
          cases hn
        · have sx : Sm 200 x := Sm.k (Nat.lt_trans (show x.natAbs < 10 by omega) (by decide))
          have e1 : firstBar f' (barP f') = placeD x := hb
          show JSs T _ _ [some (.d (.obj true (dF f'))), some (.d (dF f')), some (.d (.lst ((barP f').map .int))), some (.cl L []), some (.d (firstBar f' (barP f')))] _ _
          rw [e1]
          refine jss_next (ρ1 := [some (.d (.obj true (dF f'))), some (.d (dF f')), some (.d (.lst ((barP f').map .int))), some (.cl L ([] ++ [aboveD x])), some (.d (placeD x))]) (js_append (l := []) 3 hX (je_call hX (ok_step_of A) (ja_cons (je_var 4) ja_nil) ⟨x, rfl, rfl⟩) (by decide) (.inr rfl) rfl rfl rfl) ?_
          show JSs T _ _ [some (.d (.obj true (dF f'))), some (.d (dF f')), some (.d (.lst ((barP f').map .int))), some (.cl L ([] ++ [aboveD x])), some (.d (placeD x))] _ _
          refine jss_one (js_set 1 (je_call hX (ok_numbers_behind A) (ja_cons (je_var 1) (ja_cons (je_clLast 3 hX (je_neg je_int)) ja_nil)) ⟨f', x, rfl, hf', sx, rfl⟩) ⟨0, by decide, f'.up x, [aboveD x], some (.d (placeD x)), rfl, su, .inr ⟨rfl, rfl, rfl, hb2⟩⟩ nd)
      · have hn : isNon (firstBar f' (barP fo)) = false := hn
        rw [hb] at hn
        cases hn
    · rcases hz with ⟨rfl, rfl, rfl⟩ | ⟨rfl, rfl, rfl, hb⟩
      · rcases hw with ⟨hb, rfl, rfl⟩ | ⟨x, hx, hb, su, hb2, rfl, rfl⟩
        · have hb : firstBar g (barP g) = .non := hb
          show [_, _, _, _, some (Sl.d (firstBar g (barP g)))] = _
          rw [hb]
        · have hb : firstBar f' (barP f') = placeD x := hb
          have hn : isNon (firstBar f' (barP f')) = true := hn
          rw [hb] at hn
          cases hn
      · show [_, _, _, _, some (Sl.d (firstBar f' (barP fo)))] = _
        rw [hb]
  · rintro ρ' rfl
    exact jss_one (js_retO (L := L) (ρ2 := [some (.d (.obj true (dF fo))), some (.d (dF g)), some (.d (.lst ((barP fo).map .int))), some (.d (.lst l)), some (.d .non)]) (.inr rfl) (.cons (.so (.d _)) (.cons (.so (.d _)) (.cons (.so (.d _)) (.cons (.so (.cl _ rfl)) (.cons (.so (.d _)) .nil))))) (je_tup (ja_cons (je_var 3) (ja_cons (je_var 1) ja_nil))) ⟨_, .ret _ rfl, fun _ => rfl⟩)
theorem ok_greatest {T : Tx} (A : Al T) : PFn T "greatest" 9 (fun ds r => ∃ (f g g' : Fo) (l : List D) (m : Ma), ds = [.obj true (dF f)] ∧ SmF f ∧ f.disc ≠ 0 ∧ f.disc.natAbs ≤ 100000000 ∧ WayR f l g ∧ SmF g ∧ g.disc < 0 ∧ LeadR g g' m ∧ r = .tup [.obj true (dF g'), .int (if l.length = 0 then 1 else 3)]) := by
  refine A.d_greatest.pfn (k := 8) sc_greatest (by rintro _ _ ⟨_, _, _, _, _, rfl, _⟩; rfl) fun f cdv Ar outer sh Hh E hX ds d h => ?_
  have nd : ∀ i, (XB T N_greatest "greatest" s_greatest f cdv Ar outer sh Hh E i).N.Nodup := fun _ => sc_greatest.nd
  obtain ⟨fo, g, g', l, m, rfl, hs, h0, h1, hw, sg, dg, hl, rfl⟩ := h
  refine jss_next (js_expr (je_call hX (ok_require_stepped A) (ja_cons (je_var 0) ja_nil) ⟨_, rfl, hs, h0, h1, rfl⟩) rfl) ?_
  refine jss_next (js_asg (je_call hX (ok_way_up A) (ja_cons (je_var 0) ja_nil) ⟨fo, l, g, rfl, hs, h0, h1, hw, rfl⟩) (jg_tup hX (jgs_next (jg_name 1 nd rfl) (jgs_next (jg_name 2 nd rfl) (jgs_nil rfl))))) ?_
  refine JSs.norm (ρ2 := ?r1) ?e1 ?h1
  case e1 => dsimp only [startE, startC, N_greatest, nTail, nSet0, nSetS, nMap, nMap0, nLen, nLen0, Nat.reduceAdd, Nat.reduceSub, nRep, nRep0, nApp, nApp0]; exact rfl
  refine jss_next (js_set 3 je_int rfl nd) ?_
  refine JSs.norm (ρ2 := ?r2) ?e2 ?h2
  case e2 => dsimp only [startE, startC, N_greatest, nTail, nSet0, nSetS, nMap, nMap0, nLen, nLen0, Nat.reduceAdd, Nat.reduceSub, nRep, nRep0, nApp, nApp0]; exact rfl
  have hl2 : l = [] ∨ ∃ x, l = [aboveD x] := by
    rcases hw with ⟨_, h, _⟩ | ⟨x, _, _, _, _, h, _⟩
    · exact .inl h
    · exact .inr ⟨x, h⟩
  refine jss_cons (Ψ := fun ρ' => ∃ t, ρ' = [some (.d (.obj true (dF fo))), some (.d (.lst l)), some (.d (dF g)), some (.d (.int (if l.length = 0 then 1 else 3))), t]) (js_forW hX (fun _ => noPass) (jit_list hX (je_var 1)) (fun z ρ' => ∃ t, ρ' = [some (.d (.obj true (dF fo))), some (.d (.lst l)), some (.d (dF g)), some (.d (.int (if z = 0 then 1 else 3))), t]) ⟨none, rfl⟩ ?_ fun ρ' h => h) ?_
  · rintro z d ρ' hz ⟨t, rfl⟩
    obtain ⟨x, rfl⟩ : ∃ x, l = [aboveD x] := by
      rcases hl2 with rfl | h
      · simp at hz
      · exact h
    obtain ⟨rfl, rfl⟩ : z = 0 ∧ d = aboveD x := by
      match z with
      | 0 => simp at hz; exact ⟨rfl, hz.symm⟩
      | z + 1 => simp at hz
    refine jg_name 4 nd ?_
    refine jss_one (js_augC (C := CMul) 3 (fun _ => iop_mul) nd rfl (JE.eq (je_if (c := false) ((jt_eqS (je_ix (l := [.str "above", .int 3, prD (x, 1)]) hX (je_var 4) je_int 0 rfl rfl) (je_glob hX A.c_PART)).eq (by decide)) (je_mul (i := 3) (j := 3) ⟨je_ix (l := [.str "above", .int 3, prD (x, 1)]) hX (je_var 4) je_int 1 rfl rfl, Sm.lit⟩ ⟨je_ix (l := [.str "above", .int 3, prD (x, 1)]) hX (je_var 4) je_int 1 rfl rfl, Sm.lit⟩) (je_ix (l := [.str "above", .int 3, prD (x, 1)]) hX (je_var 4) je_int 1 rfl rfl)) rfl) (.inr ⟨by decide, by decide⟩) ⟨_, rfl⟩)
  · rintro ρ' ⟨t, rfl⟩
    exact jss_one (js_ret (je_tup (ja_cons (je_call hX (ok_least_made A) (ja_cons (je_var 2) ja_nil) ⟨g, g', m, rfl, sg, dg, hl, rfl⟩) (ja_cons (je_var 3) ja_nil))) rfl)
end Fr
namespace Fr
open PySem PySem.Spec PyProof.Rows L2 StX
noncomputable def stF (n : Int) : Fo := ⟨ptA n, 0, 0, ptB n⟩
theorem ok_third_form {T : Tx} (A : Al T) : PFn T "third_form" 7 (fun ds r => ∃ n : Int, ds = [.int n] ∧ 2 ≤ n ∧ n ≤ 1000000000000 ∧ In60 (stF n) ∧ r = .obj true (dF (stF n))) := by
  refine A.d_third_form.pfn (k := 6) sc_third_form (by rintro _ _ ⟨_, rfl, _⟩; rfl) fun f cdv Ar outer sh Hh E hX ds d h => ?_
  have nd : ∀ i, (XB T N_third_form "third_form" s_third_form f cdv Ar outer sh Hh E i).N.Nodup := fun _ => sc_third_form.nd
  obtain ⟨n, rfl, h1, h2, hi, rfl⟩ := h
  refine jss_next (js_asg (je_call hX (ok_third_root A) (ja_cons (je_var 0) ja_nil) ⟨n, rfl, h1, h2, rfl⟩) (jg_tup hX (jgs_next (jg_name 1 nd rfl) (jgs_next (jg_name 2 nd rfl) (jgs_nil rfl))))) ?_
  refine JSs.norm (ρ2 := ?r1) ?e1 ?h1
  case e1 => dsimp only [startE, startC, N_third_form, nTail, nSet0, nSetS, nMap, nMap0, nLen, nLen0, Nat.reduceAdd, Nat.reduceSub, nRep, nRep0, nApp, nApp0]; exact rfl
  exact jss_one (js_ret (je_make hX (mk_Form A) (je_tup (ja_cons (je_var 1) (ja_cons je_int (ja_cons je_int (ja_cons (je_var 2) ja_nil))))) (.inr ⟨stF n, rfl, hi, rfl⟩)) rfl)
/-- the heavy root at 3 of (a, 0, 0, b): 2, 1, or (0) none -/
def hpx (a b : Int) : Int := if (a - b) % 9 = 0 then 2 else if (a + b) % 9 = 0 then 1 else 0
def hpD (a b : Int) : D := if hpx a b = 0 then .non else prD (hpx a b, 1)
theorem ok_heavy_place_of {T : Tx} (A : Al T) : PFn T "heavy_place_of" 1 (fun ds r => ∃ a b : Int, ds = [.int a, .int b] ∧ r = hpD a b) := by
  refine A.d_heavy_place_of.pfn (k := 0) sc_heavy_place_of (by rintro _ _ ⟨_, _, rfl, _⟩; rfl) fun f cdv Ar outer sh Hh E hX ds d h => ?_
  have nd : ∀ i, (XB T N_heavy_place_of "heavy_place_of" s_heavy_place_of f cdv Ar outer sh Hh E i).N.Nodup := fun _ => sc_heavy_place_of.nd
  obtain ⟨a, b, rfl, rfl⟩ := h
  by_cases h : (a - b) % 9 = 0
  · refine jss_stop (js_if (c := true) ((jt_eqI (je_mod (je_sub (je_var 0) (je_var 1)) (je_glob hX A.c_NINE) (by first | decide | assumption | omega)) je_int).eq (decide_eq_true h)) (fun _ => jss_one (js_ret (je_tup (ja_cons je_int (ja_cons je_int ja_nil))) ?_)) (fun h => nomatch h))
    show Sl.d _ = Sl.d _
    unfold hpD hpx
    rw [if_pos h]
    rfl
  · refine jss_next (js_if (c := false) ((jt_eqI (je_mod (je_sub (je_var 0) (je_var 1)) (je_glob hX A.c_NINE) (by first | decide | assumption | omega)) je_int).eq (decide_eq_false h)) (fun h => nomatch h) (fun _ => jss_nil rfl)) ?_
    refine jss_one (js_ret (je_if (c := decide ((a + b) % 9 = 0)) (jt_eqI (je_mod (je_add (je_var 0) (je_var 1)) (je_glob hX A.c_NINE) (by first | decide | assumption | omega)) je_int) (je_tup (ja_cons je_int (ja_cons je_int ja_nil))) je_non) ?_)
    show Sl.d _ = Sl.d _
    unfold hpD hpx
    rw [if_neg h]
    by_cases h2 : (a + b) % 9 = 0
    · rw [if_pos h2, decide_eq_true h2]; rfl
    · rw [if_neg h2, decide_eq_false h2]; rfl
def ThrR (n : Int) (g : Fo) (i : Int) : Prop := 2 ≤ n ∧ n ≤ 1000000000000 ∧ In20 (stF n) ∧ In60 (stF n) ∧ SmF (stF n) ∧
  ((hpx (ptA n) (ptB n) = 0 ∧ i = 1 ∧ (stF n).disc < 0 ∧ ∃ m, LeadR (stF n) g m) ∨
   ((hpx (ptA n) (ptB n) = 1 ∨ hpx (ptA n) (ptB n) = 2) ∧ i = 3 ∧ heavyB (stF n) 3 (hpx (ptA n) (ptB n), 1) = true ∧ In20 ((stF n).up (hpx (ptA n) (ptB n))) ∧ ((stF n).up (hpx (ptA n) (ptB n))).disc < 0 ∧ ∃ m, LeadR ((stF n).up (hpx (ptA n) (ptB n))) g m))
theorem ok_third_greatest {T : Tx} (A : Al T) : PFn T "third_greatest" 10 (fun ds r => ∃ (n : Int) (g : Fo) (i : Int), ds = [.int n] ∧ ThrR n g i ∧ r = .tup [.obj true (dF g), .int i]) := by
  refine A.d_third_greatest.pfn (k := 9) sc_third_greatest (by rintro _ _ ⟨_, _, _, rfl, _⟩; rfl) fun f cdv Ar outer sh Hh E hX ds d h => ?_
  have nd : ∀ i, (XB T N_third_greatest "third_greatest" s_third_greatest f cdv Ar outer sh Hh E i).N.Nodup := fun _ => sc_third_greatest.nd
  obtain ⟨n, g, i, rfl, ⟨h1, h2, h20, h60, hs, hc⟩, rfl⟩ := h
  refine jss_next (js_set 1 (je_call hX (ok_third_form A) (ja_cons (je_var 0) ja_nil) ⟨n, rfl, h1, h2, h60, rfl⟩) rfl nd) ?_
  refine JSs.norm (ρ2 := ?r2) ?e2 ?h2
  case e2 => dsimp only [startE, startC, N_third_greatest, nTail, nSet0, nSetS, nMap, nMap0, nLen, nLen0, Nat.reduceAdd, Nat.reduceSub, nRep, nRep0, nApp, nApp0]; exact rfl
  refine jss_next (js_set 2 (je_call hX (ok_heavy_place_of A) (ja_cons (je_item hX (ok_item A) (je_var 1) je_int ⟨stF n, .inl ⟨rfl, rfl⟩⟩) (ja_cons (je_item hX (ok_item A) (je_var 1) (je_glob hX A.c_MANY) ⟨stF n, .inr ⟨rfl, rfl⟩⟩) ja_nil)) ⟨_, _, rfl, rfl⟩) rfl nd) ?_
  rcases hc with ⟨hp, rfl, hd, m, hl⟩ | ⟨hp, rfl, hh, hi, hd, m, hl⟩
  · have e : hpD (stF n).a (stF n).d = .non := by
      unfold hpD
      rw [show hpx (stF n).a (stF n).d = 0 from hp]
      rfl
    show JSs T _ _ [some (.d (.int n)), some (.d (.obj true (dF (stF n)))), some (.d (hpD (stF n).a (stF n).d))] _ _
    rw [e]
    exact jss_stop (js_if (c := true) (JT.eq (c := isNon .non) (jt_isN (je_var 2)) rfl) (fun _ => jss_one (js_ret (je_tup (ja_cons (je_call hX (ok_least_form A) (ja_cons (je_var 1) ja_nil) ⟨stF n, g, m, rfl, h20, hd, hl, rfl⟩) (ja_cons je_int ja_nil))) rfl)) (fun h => nomatch h))
  · generalize hx : hpx (ptA n) (ptB n) = x at hp hh hi hd hl
    have e : hpD (stF n).a (stF n).d = prD (x, 1) := by
      unfold hpD
      rw [show hpx (stF n).a (stF n).d = x from hx]
      rcases hp with rfl | rfl <;> rfl
    show JSs T _ _ [some (.d (.int n)), some (.d (.obj true (dF (stF n)))), some (.d (hpD (stF n).a (stF n).d))] _ _
    rw [e]
    refine jss_next (js_if (c := false) (JT.eq (c := isNon (prD (x, 1))) (jt_isN (je_var 2)) rfl) (fun h => nomatch h) (fun _ => jss_nil rfl)) ?_
    exact jss_one (js_ret (je_tup (ja_cons (je_call hX (ok_least_form A) (ja_cons (je_call hX (ok_above A) (ja_cons (je_var 1) (ja_cons (je_glob hX A.c_MANY) (ja_cons (je_var 2) ja_nil))) ⟨stF n, x, rfl, hs, hp, hh, rfl⟩) ja_nil) ⟨(stF n).up x, g, m, rfl, hi, hd, hl, rfl⟩) (ja_cons (je_glob hX A.c_MANY) ja_nil))) rfl)
end Fr
namespace Fr
open PySem PySem.Spec PyProof.Rows L2 StX
def c456 : Int := (10 ^ 57) ^ 8
theorem c456_pos : 0 < c456 := Int.pow_pos (Int.pow_pos (by decide))
theorem ok_law_cask {T : Tx} (A : Al T) : NFn T "_law_cask" 2 (fun ds => ∃ (l : List Int) (s : Nat), ds = [.lst (l.map .int), .int s] ∧ s ≤ 3) (fun _ r => ∃ c0 c1 : Int, r = [.int c0, .int c1, .int 0] ∧ 0 ≤ c0 ∧ c0 < c456 ∧ 0 ≤ c1 ∧ c1 < 2305843009213693951) := by
  obtain ⟨f, fd, F, hm, hb⟩ := A.d_law_cask.ex
  refine ⟨f, fd, _, fn_mkN (k := 1) F sc_law_cask (by rintro _ ⟨_, _, rfl, _⟩; rfl) fun cdv Ar outer sh Hh E hX ds h => ?_, hm, F.kp, hb⟩
  have nd : ∀ i, (XB T N_law_cask "_law_cask" s_law_cask f cdv Ar outer sh Hh E i).N.Nodup := fun _ => sc_law_cask.nd
  obtain ⟨l, s, rfl, hs⟩ := h
  have sm : Sm 200 (s : Int) := Sm.k (Nat.lt_trans (show (s : Int).natAbs < 10 by omega) (by decide))
  have hc : ∃ c : Int, JE T (XB T N_law_cask "_law_cask" s_law_cask f cdv Ar outer sh Hh E) (startE N_law_cask [.lst (l.map .int), .int s]) (match defBody s_law_cask with | .Assign _ e _ :: _ => e | _ => .Constant .none 0 ⟨0, 0, 0, 0⟩) (.int c) := by
    by_cases h : s < l.length
    · refine ⟨l[s], je_ifT (JT.eq (jt_lt (je_var 1) (je_lenL hX A.b_len (je_var 0))) (decide_eq_true ?_)) (je_intI hX A.b_int (je_ixL hX (je_var 0) (je_var 1) s rfl ?_)) ⟨_, can_pe _⟩⟩
      · rw [List.length_map]; omega
      · rw [List.getElem?_map, List.getElem?_eq_getElem h]; rfl
    · refine ⟨_, je_ifF (JT.eq (jt_lt (je_var 1) (je_lenL hX A.b_len (je_var 0))) (decide_eq_false ?_)) ⟨_, can_pe _⟩ (je_add (je_add (je_mul (JI.int 10) (JI.v 1)) je_int) (je_mod (je_intI hX A.b_int (je_sum (l := l.take 1) hX A.b_sum (JE.eq (je_take 1 hX (je_var 0) je_int) ?_))) je_int (by decide)))⟩
      · rw [List.length_map]; omega
      · rw [List.map_take]
  obtain ⟨c, hc⟩ := hc
  refine jss_next (js_set 2 hc rfl nd) ?_
  show JSs T _ _ [some (.d (.lst (l.map .int))), some (.d (.int s)), some (.d (.int c)), none, none] _ _
  have hg : ∃ g : Int, 0 ≤ g ∧ g < c456 ∧ JE T (XB T N_law_cask "_law_cask" s_law_cask f cdv Ar outer sh Hh E) [some (.d (.lst (l.map .int))), some (.d (.int s)), some (.d (.int c)), none, none] (match defBody s_law_cask with | _ :: .Assign _ e _ :: _ => e | _ => .Constant .none 0 ⟨0, 0, 0, 0⟩) (.int g) :=
    ⟨_, Int.emod_nonneg _ (Int.ne_of_gt c456_pos), Int.emod_lt_of_pos _ c456_pos, je_mod (je_intI hX A.b_int (je_abs hX A.b_abs (je_var 2))) (JE.eq (je_powW (je_pow je_int je_int (by decide)) je_int (by decide)) rfl) c456_pos⟩
  obtain ⟨g, g1, g2, hg⟩ := hg
  refine jss_next (js_set 3 hg rfl nd) ?_
  show JSs T _ _ [some (.d (.lst (l.map .int))), some (.d (.int s)), some (.d (.int c)), some (.d (.int g)), none] _ _
  have hm : ∃ g' : Int, 0 ≤ g' ∧ g' < 2305843009213693951 ∧ JE T (XB T N_law_cask "_law_cask" s_law_cask f cdv Ar outer sh Hh E) [some (.d (.lst (l.map .int))), some (.d (.int s)), some (.d (.int c)), some (.d (.int g)), none] (match defBody s_law_cask with | _ :: _ :: .Assign _ e _ :: _ => e | _ => .Constant .none 0 ⟨0, 0, 0, 0⟩) (.int g') := by
    have k : ∀ i : Int, i.natAbs < 2 ^ 64 → Sm 9000 i := fun i h => Nat.lt_of_lt_of_le h (Nat.pow_le_pow_right (by decide) (by decide))
    refine ⟨_, Int.emod_nonneg _ (by decide), Int.emod_lt_of_pos _ (by decide), je_mod (je_intI hX A.b_int (je_add (je_add (je_add (je_mul (m := 9000) (JI.x (je_mod (je_var 3) je_int (by decide)) (k _ ?_)) (JI.int 20)) (je_mul (JI.int 20) (JI.v 1))) (je_mul (m := 10) (n := 9000) (JI.int 10) (JI.x (je_intB hX A.b_int (je_lt (je_var 2) je_int)) (k _ ?_)))) je_int)) je_int (by decide)⟩
    · have h1 := Int.emod_nonneg g (show (2305843009213693907 : Int) ≠ 0 by decide)
      have h2 := Int.emod_lt_of_pos g (show (0 : Int) < 2305843009213693907 by decide)
      omega
    · cases decide (c < 0) <;> decide
  obtain ⟨g', g3, g4, hg'⟩ := hm
  refine jss_next (js_set 4 hg' rfl nd) ?_
  refine jss_one (js_retNew (l := [.int (if g - 10 ^ 16 > 0 then g - 10 ^ 16 else 0), .int g', .int 0]) (ja_cons (je_max2 hX A.b_max (ja_cons je_int (ja_cons (je_sub (je_var 3) (je_pow je_int je_int (by decide))) ja_nil))) (ja_cons (je_var 4) (ja_cons je_int ja_nil))) ⟨_, rfl, _, _, rfl, ?_, ?_, g3, g4⟩)
  · split <;> omega
  · have : (0 : Int) < 10 ^ 16 := by decide
    have := c456_pos
    split <;> omega
end Fr
namespace Fr
open PySem PySem.Spec PyProof.Rows L2 StX
def CaskR (k : Int) (l : List D) : Prop := ∃ c0 c1 c2 : Int, l = [.int c0, .int c1, .int c2] ∧ 0 ≤ c0 ∧ 0 ≤ c1 ∧ c1 < 2305843009213693951 ∧ 0 ≤ c2 ∧ c2 ≤ k
def PreT (c : Sl) (ds : List D) : Prop := ∃ (L : Addr) (l : List D) (k many : Int), c = .cl L l ∧ CaskR k l ∧ k ≤ 100 ∧ ds = [.int many] ∧ 1 ≤ many ∧ many ≤ 1000000000000
def PoT (c : Sl) (ds : List D) (d : D) (c' : Sl) : Prop := ∃ (L : Addr) (l l' : List D) (many r : Int), c = .cl L l ∧ ds = [.int many] ∧ d = .int r ∧ 0 ≤ r ∧ r < many ∧ c' = .cl L l' ∧ ∀ k, CaskR k l → CaskR (k + 1) l'
theorem ok_law_tap {T : Tx} (A : Al T) : CFn T "_law_tap" 2 PreT PoT := by
  obtain ⟨f, fd, F, hm, hb⟩ := A.d_law_tap.ex
  refine ⟨f, fd, _, fn_mkC (Pre := PreT) (Po := PoT) (n0 := "_law_cask_here") (N := N_law_tap.tail) (k := 1) F sc_law_tap (by rintro _ _ ⟨_, _, _, _, _, _, _, rfl, _⟩; rfl) (by rintro _ _ _ _ ⟨_, _, _, _, _, rfl, _, _, _, _, rfl, _⟩; exact rfl) fun cdv Ar outer sh Hh E hX c ds h => ?_, hm, F.kp, hb⟩
  have nd : ∀ i, (XB T N_law_tap "_law_tap" s_law_tap f cdv Ar outer sh Hh E i).N.Nodup := fun _ => sc_law_tap.nd
  obtain ⟨L, l, k, n, rfl, ⟨c0, c1, c2, rfl, h0, h1, h2, h3, h4⟩, hk, rfl, hn, hn2⟩ := h
  have sn : Sm 200 n := Sm.k (Nat.lt_trans (show n.natAbs < 10000000000000 by omega) (by decide))
  have k : ∀ i : Int, i.natAbs < 2 ^ 64 → Sm 200 i := fun i h => Nat.lt_of_lt_of_le h (Nat.pow_le_pow_right (by decide) (by decide))
  show JSs T (XB T N_law_tap "_law_tap" s_law_tap f cdv Ar outer sh Hh E) (one L) [some (.cl L [.int c0, .int c1, .int c2]), some (.d (.int n)), none, none, none] _ _
  by_cases hc : c0 > 0
  · refine jss_stop (js_if (c := true) (JT.eq (jt_gt (je_clIx 0 0 hX je_int rfl rfl) je_int) (decide_eq_true hc)) (fun _ => ?_) (fun h => nomatch h))
    refine jss_next (js_set 2 (je_mod (je_intI hX A.b_int (je_clIx 0 0 hX je_int rfl rfl)) (je_var 1) (by omega)) rfl nd) ?_
    show JSs T _ _ [some (.cl L [.int c0, .int c1, .int c2]), some (.d (.int n)), some (.d (.int (c0 % n))), none, none] _ _
    refine jss_next (ρ1 := [some (.cl L [.int (c0 / n), .int c1, .int c2]), some (.d (.int n)), some (.d (.int (c0 % n))), none, none]) (js_clSet 0 0 (je_div (je_clIx 0 0 hX je_int rfl rfl) (JI.v 1) (by omega)) je_int rfl (by show 0 < 3; decide) rfl rfl rfl rfl) ?_
    refine jss_one (js_ret (je_var 2) ⟨_, _, rfl, rfl, L, _, _, n, _, rfl, rfl, rfl, Int.emod_nonneg _ (by omega), Int.emod_lt_of_pos _ (by omega), rfl, ?_⟩)
    rintro k' ⟨d0, d1, d2, e, e0, e1, e2, e3, e4⟩
    simp only [List.cons.injEq, D.int.injEq, and_true] at e
    obtain ⟨rfl, rfl, rfl⟩ := e
    exact ⟨_, _, _, rfl, Int.ediv_nonneg e0 (by omega), e1, e2, e3, by omega⟩
  · refine jss_next (js_if (c := false) (JT.eq (jt_gt (je_clIx 0 0 hX je_int rfl rfl) je_int) (decide_eq_false hc)) (fun h => nomatch h) (fun _ => jss_nil rfl)) ?_
    refine jss_next (ρ1 := [some (.cl L [.int c0, .int c1, .int (c2 + 1)]), some (.d (.int n)), none, none, none]) (js_clSet 0 2 (je_add (je_clIx 0 2 hX je_int rfl rfl) je_int) je_int rfl (by show 2 < 3; decide) rfl rfl rfl rfl) ?_
    have s2 : Sm 200 (c2 + 1) := k _ (by omega)
    have hd : ∀ e, e ∈ ([] : List Nat) → True := fun _ _ => trivial
    refine jss_next (js_set 3 (je_mod (je_intI hX A.b_int (je_add (je_clIx 0 1 hX je_int rfl rfl) (je_mul (JI.int 30) ⟨je_clIx 0 2 hX je_int rfl rfl, s2⟩))) je_int (by decide)) rfl nd) ?_
    have m1 := Int.emod_nonneg (c1 + 32452843 * (c2 + 1)) (show (2305843009213693921 : Int) ≠ 0 by decide)
    have m2 := Int.emod_lt_of_pos (c1 + 32452843 * (c2 + 1)) (show (0 : Int) < 2305843009213693921 by decide)
    show JSs T _ _ [some (.cl L [.int c0, .int c1, .int (c2 + 1)]), some (.d (.int n)), none, some (.d (.int ((c1 + 32452843 * (c2 + 1)) % 2305843009213693921))), none] _ _
    generalize (c1 + 32452843 * (c2 + 1)) % 2305843009213693921 = w at m1 m2
    have sw : Sm 200 w := k _ (by omega)
    have sq : Sm 9000 (w * w % 2305843009213693951) := by
      have q1 := Int.emod_nonneg (w * w) (show (2305843009213693951 : Int) ≠ 0 by decide)
      have q2 := Int.emod_lt_of_pos (w * w) (show (0 : Int) < 2305843009213693951 by decide)
      exact (k _ (by omega)).mono (by decide)
    refine jss_next (js_set 4 (je_add (je_add (je_mul (JI.x (je_mod (je_intI hX A.b_int (je_mul (JI.v 3) (JI.v 3))) je_int (by decide)) sq) (JI.int 30)) (je_var 3)) (je_mul (JI.int 10) ⟨je_clIx 0 2 hX je_int rfl rfl, s2⟩)) rfl nd) ?_
    refine jss_one (js_ret (je_mod (je_intI hX A.b_int (je_div (je_var 4) (JI.int 20) (by decide))) (je_var 1) (by omega)) ⟨_, _, rfl, rfl, L, _, _, n, _, rfl, rfl, rfl, Int.emod_nonneg _ (by omega), Int.emod_lt_of_pos _ (by omega), rfl, ?_⟩)
    rintro k' ⟨d0, d1, d2, e, e0, e1, e2, e3, e4⟩
    simp only [List.cons.injEq, D.int.injEq, and_true] at e
    obtain ⟨rfl, rfl, rfl⟩ := e
    exact ⟨_, _, _, rfl, e0, e1, e2, by omega, by omega⟩
end Fr
namespace Fr
open PySem PySem.Spec PyProof.Rows L2 StX
def PreO (c : Sl) (ds : List D) : Prop := ∃ (L : Addr) (l : List D) (k : Int) (it : List D), c = .cl L l ∧ CaskR k l ∧ k ≤ 100 ∧ ds = [.lst it] ∧ it ≠ [] ∧ it.length ≤ 100
def PoO (c : Sl) (ds : List D) (d : D) (c' : Sl) : Prop := ∃ (L : Addr) (l l' : List D) (it : List D), c = .cl L l ∧ ds = [.lst it] ∧ d ∈ it ∧ c' = .cl L l' ∧ ∀ k, CaskR k l → CaskR (k + 1) l'
theorem ok_law_one {T : Tx} (A : Al T) : CFn T "_law_one" 3 PreO PoO := by
  obtain ⟨f, fd, F, hm, hb⟩ := A.d_law_one.ex
  refine ⟨f, fd, _, fn_mkC (Pre := PreO) (Po := PoO) (n0 := "_law_cask_here") (N := N_law_one.tail) (k := 2) F sc_law_one (by rintro _ _ ⟨_, _, _, _, _, _, _, rfl, _⟩; rfl) (by rintro _ _ _ _ ⟨_, _, _, _, rfl, _, _, rfl, _⟩; exact rfl) fun cdv Ar outer sh Hh E hX c ds h => ?_, hm, F.kp, hb⟩
  have nd : ∀ i, (XB T N_law_one "_law_one" s_law_one f cdv Ar outer sh Hh E i).N.Nodup := fun _ => sc_law_one.nd
  obtain ⟨L, l, k, it, rfl, hc, hk, rfl, hn, hn2⟩ := h
  have hl : 0 < it.length := List.length_pos_iff.mpr hn
  show JSs T (XB T N_law_one "_law_one" s_law_one f cdv Ar outer sh Hh E) (one L) [some (.cl L l), some (.d (.lst it))] _ _
  refine jss_one (js_retM (jm_ixL (l := it) (Ω := fun d ρ' => ∃ (r : Int) (l' : List D), d = .int r ∧ 0 ≤ r ∧ r < it.length ∧ ρ' = [some (.cl L l'), some (.d (.lst it))] ∧ ∀ k, CaskR k l → CaskR (k + 1) l') (Ψ := fun d ρ' => ∃ l', d ∈ it ∧ ρ' = [some (.cl L l'), some (.d (.lst it))] ∧ ∀ k, CaskR k l → CaskR (k + 1) l') hX (je_var 1) (jm_callC 0 hX (ok_law_tap A) (ja_cons (je_lenL hX A.b_len (je_var 1)) ja_nil) ⟨L, l, k, _, rfl, hc, hk, rfl, by omega, by omega⟩ (fun _ h => h) rfl rfl ?_) ?_) ?_)
  · rintro d c' ⟨L', l1, l', n, r, e1, e2, rfl, h1, h2, rfl, h3⟩
    injection e1 with e1 e1'
    subst e1 e1'
    simp only [List.cons.injEq, D.int.injEq, and_true] at e2
    exact ⟨r, l', rfl, h1, by omega, rfl, h3⟩
  · rintro d ρ' ⟨r, l', rfl, h1, h2, rfl, h3⟩
    have hr : r.toNat < it.length := by omega
    refine ⟨r.toNat, it[r.toNat]'hr, by rw [Int.toNat_of_nonneg h1], List.getElem?_eq_getElem hr, l', List.getElem_mem hr, rfl, h3⟩
  · rintro d ρ' ⟨l', h1, rfl, h3⟩
    exact ⟨d, _, rfl, rfl, L, l, l', it, rfl, rfl, h1, rfl, h3⟩
end Fr
namespace Fr
open PySem PySem.Spec PyProof.Rows L2 StX
/-- what the law needs of n: all is right -/
structure RightN (n : Int) (g : Fo) (i x : Int) : Prop where
  thr : ThrR n g i
  hx : hpx (ptA n) (ptB n) = x
  hi : (i = 3 ∧ (x = 1 ∨ x = 2) ∧ (ptA n * ptA n - ptB n * ptB n) % 9 = 0) ∨ (i = 1 ∧ x = 0 ∧ (ptA n * ptA n - ptB n * ptB n) % 9 ≠ 0)
  fd : (stF n).disc < 0
  dg : g.disc * i * i = (stF n).disc
  sg : SmF g
  g20 : In20 g
  gd : g.disc < 0
  gl : ∃ m, LeadR g g m
  h3 : (plL 3).filter (heavyB (stF n) 3) = if x = 0 then [] else [(x, 1)]
  h2 : (plL 2).filter (heavyB (stF n) 2) = []
  g3 : (plL 3).filter (heavyB g 3) = []
  g2 : (plL 2).filter (heavyB g 2) = []
  gr : -100000000 ≤ (stF n).disc → ∃ l gg m, WayR (stF n) l gg ∧ SmF gg ∧ gg.disc < 0 ∧ LeadR gg g m ∧ (if l.length = 0 then 1 else 3) = i ∧ firstBar g (barP g) = .non ∧ isNon (firstBar (stF n) (barP (stF n))) = decide (x = 0)
def plx (x : Int) : D := .tup (if x = 0 then [] else [prD (x, 1)])
theorem plx_ok {x : Int} (h : x = 0 ∨ x = 1 ∨ x = 2) : plainD (plx x) = true ∧ SeqAt.shaped (toPy (plx x)) = true ∧ PyData.eqv (toPy (plx x)) (toPy (plx x)) = true := by
  rcases h with rfl | rfl | rfl <;> exact ⟨rfl, rfl, rfl⟩
theorem ok_law_is_right {T : Tx} (A : Al T) : PFn T "_law_is_right" 11 (fun ds r => ∃ n g i x, ds = [.int n] ∧ RightN n g i x ∧ r = .bl true) := by
  refine A.d_law_is_right.pfn (k := 10) sc_law_is_right (by rintro _ _ ⟨_, _, _, _, rfl, _⟩; rfl) fun f cdv Ar outer sh Hh E hX ds d h => ?_
  have nd : ∀ i, (XB T N_law_is_right "_law_is_right" s_law_is_right f cdv Ar outer sh Hh E i).N.Nodup := fun _ => sc_law_is_right.nd
  obtain ⟨n, g, i, x, rfl, R, rfl⟩ := h
  obtain ⟨h1, h2, h20, h60, hs, hc⟩ := R.thr
  have T3 := R.thr
  refine jss_next (js_asg (je_tup (ja_cons (je_call hX (ok_third_form A) (ja_cons (je_var 0) ja_nil) ⟨n, rfl, h1, h2, h60, rfl⟩) (ja_cons (je_call hX (ok_third_root A) (ja_cons (je_var 0) ja_nil) ⟨n, rfl, h1, h2, rfl⟩) ja_nil))) (jg_tup hX (jgs_next (jg_name 1 nd rfl) (jgs_next (jg_tup hX (jgs_next (jg_name 2 nd rfl) (jgs_next (jg_name 3 nd rfl) (jgs_nil rfl)))) (jgs_nil rfl))))) ?_
  refine JSs.norm (ρ2 := ?r1) ?e1 ?h1
  case e1 => dsimp only [startE, startC, N_law_is_right, nTail, nSet0, nSetS, nMap, nMap0, nLen, nLen0, Nat.reduceAdd, Nat.reduceSub, nRep, nRep0, nApp, nApp0]; exact rfl
  refine jss_next (js_set 4 (je_call hX (ok_third_greatest A) (ja_cons (je_var 0) ja_nil) ⟨n, g, i, rfl, R.thr, rfl⟩) rfl nd) ?_
  refine JSs.norm (ρ2 := ?r2) ?e2 ?h2
  case e2 => dsimp only [startE, startC, N_law_is_right, nTail, nSet0, nSetS, nMap, nMap0, nLen, nLen0, Nat.reduceAdd, Nat.reduceSub, nRep, nRep0, nApp, nApp0]; exact rfl
  refine jss_next (js_if (c := false) (JT.eq (jt_W (jw_or (jt_not (jt_val (je_isiB (x := .tup [.obj true (dF g), .int i]) hX A.b_isinstance A.cls A.b_tuple bt_tuple (je_var 4) kit_tt))) (jw_or1 (jt_neI (je_lenT (l := [.obj true (dF g), .int i]) hX A.b_len (je_var 4)) je_int)))) rfl) (fun h => nomatch h) (fun _ => jss_nil rfl)) ?_
  refine jss_next (js_asg (je_var 4) (jg_tup hX (jgs_next (jg_name 5 nd rfl) (jgs_next (jg_name 6 nd rfl) (jgs_nil rfl))))) ?_
  refine JSs.norm (ρ2 := ?r3) ?e3 ?h3
  case e3 => dsimp only [startE, startC, N_law_is_right, nTail, nSet0, nSetS, nMap, nMap0, nLen, nLen0, Nat.reduceAdd, Nat.reduceSub, nRep, nRep0, nApp, nApp0]; exact rfl
  have k : ∀ i : Int, i.natAbs < 2 ^ 64 → Sm 200 i := fun i h => Nat.lt_of_lt_of_le h (Nat.pow_le_pow_right (by decide) (by decide))
  obtain ⟨sa, _, _, sb⟩ := id hs
  have sa : Sm 200 (ptA n) := sa
  have sb : Sm 200 (ptB n) := sb
  refine jss_next (js_set 7 (je_eqI (je_mod (je_intI hX A.b_int (je_sub (je_mul (JI.v 2) (JI.v 2)) (je_mul (JI.v 3) (JI.v 3)))) je_int (by decide)) je_int) rfl nd) ?_
  refine JSs.norm (ρ2 := ?r4) ?e4 ?h4
  case e4 => dsimp only [startE, startC, N_law_is_right, nTail, nSet0, nSetS, nMap, nMap0, nLen, nLen0, Nat.reduceAdd, Nat.reduceSub, nRep, nRep0, nApp, nApp0]; exact rfl
  generalize hsp : decide ((ptA n * ptA n - ptB n * ptB n) % 9 = 0) = sp
  have hi3 : i = cond sp 3 1 := by
    rcases R.hi with ⟨rfl, _, h⟩ | ⟨rfl, _, h⟩
    · rw [decide_eq_true h] at hsp; subst hsp; rfl
    · rw [decide_eq_false h] at hsp; subst hsp; rfl
  have si : Sm 200 i := by
    rw [hi3]
    cases sp <;> exact k _ (by decide)
  obtain ⟨hs0, hs1, hs2, hs3⟩ := R.sg
  have sd : Sm 9000 g.disc := by
    unfold Fo.disc
    exact Sm.mono (by repeat first | assumption | exact Sm.lit | apply Sm.add | apply Sm.sub | apply Sm.mul | apply Sm.neg) (by decide)
  obtain ⟨ml, hml⟩ := R.gl
  refine jss_next (js_if (c := false) (JT.eq (jt_W (jw_or (jt_neI (je_var 6) (JE.eq (je_if (c := sp) (jt_val (je_var 7)) (je_int (i := 3)) (je_int (i := 1))) (show _ = D.int (cond sp 3 1) by cases sp <;> rfl))) (jw_or (jt_neI (je_mul (JI.mul (JI.x (je_prop hX (A.cls true) (ok_Form_discriminant A) (je_var 5) ⟨_, rfl, R.sg, rfl⟩) sd) (JI.v 6)) (JI.v 6)) (je_prop hX (A.cls true) (ok_Form_discriminant A) (je_var 1) ⟨_, rfl, hs, rfl⟩)) (jw_or1 (jt_not (jt_val (je_call hX (ok_is_least A) (ja_cons (je_var 5) ja_nil) ⟨g, ml, rfl, R.g20, R.gd, hml, rfl⟩))))))) ?_) (fun h => nomatch h) (fun _ => jss_nil rfl)) ?_
  · rw [R.dg, decide_eq_true hi3, decide_eq_true rfl]
    rfl
  have hx3 : x = 0 ∨ x = 1 ∨ x = 2 := by
    rcases R.hi with ⟨_, rfl | rfl, _⟩ | ⟨_, rfl, _⟩ <;> simp
  refine jss_next (js_set 8 (je_if (c := decide ((ptA n - ptB n) % 9 = 0)) (x := .tup [prD (2, 1)]) (y := .tup [prD (1, 1)]) (jt_eqI (je_mod (je_intI hX A.b_int (je_sub (je_var 2) (je_var 3))) je_int (by first | decide | assumption | omega)) je_int) (je_tup (ja_cons (je_tup (ja_cons je_int (ja_cons je_int ja_nil))) ja_nil)) (je_tup (ja_cons (je_tup (ja_cons je_int (ja_cons je_int ja_nil))) ja_nil))) rfl nd) ?_
  refine JSs.norm (ρ2 := ?r5) ?e5 ?h5
  case e5 => dsimp only [startE, startC, N_law_is_right, nTail, nSet0, nSetS, nMap, nMap0, nLen, nLen0, Nat.reduceAdd, Nat.reduceSub, nRep, nRep0, nApp, nApp0]; exact rfl
  generalize hpl : cond (decide ((ptA n - ptB n) % 9 = 0)) (D.tup [prD (2, 1)]) (.tup [prD (1, 1)]) = pl
  have hplx : cond sp pl (.tup []) = plx x := by
    have hx := R.hx
    unfold hpx at hx
    rcases R.hi with ⟨_, h, h2⟩ | ⟨_, rfl, h2⟩
    · rw [decide_eq_true h2] at hsp
      subst hsp
      subst hpl
      by_cases h9 : (ptA n - ptB n) % 9 = 0
      · rw [if_pos h9] at hx
        subst hx
        rw [decide_eq_true h9]
        rfl
      · rw [if_neg h9] at hx
        rw [decide_eq_false h9]
        split at hx
        · subst hx
          rfl
        · omega
    · rw [decide_eq_false h2] at hsp
      subst hsp
      rfl
  obtain ⟨px1, px2, px3⟩ := plx_ok hx3
  have h3 : D.tup (((plL (3 : Int).toNat).filter (heavyB (stF n) 3)).map prD) = plx x := by
    rw [show (3 : Int).toNat = 3 from rfl, R.h3]
    unfold plx
    split <;> rfl
  have h2 : D.tup (((plL (2 : Int).toNat).filter (heavyB (stF n) 2)).map prD) = .tup [] := by
    rw [show (2 : Int).toNat = 2 from rfl, R.h2]
    rfl
  refine jss_next (js_if (c := false) (JT.eq (jt_W (jw_or (jt_neD (x := plx x) (y := plx x) hX (JE.eq (je_call hX (ok_heavy_places A) (ja_cons (je_var 1) (ja_cons je_int ja_nil)) ⟨_, _, rfl, hs, by decide, by decide, rfl⟩) h3) (JE.eq (je_if (c := sp) (jt_val (je_var 7)) (je_var 8) (je_tup ja_nil)) hplx) px1 px1 px2 px2) (jw_or1 (jt_neD (x := .tup []) (y := .tup []) hX (JE.eq (je_call hX (ok_heavy_places A) (ja_cons (je_var 1) (ja_cons je_int ja_nil)) ⟨_, _, rfl, hs, by decide, by decide, rfl⟩) h2) (je_tup ja_nil))))) ?_) (fun h => nomatch h) (fun _ => jss_nil rfl)) ?_
  · rw [px3]
    rfl
  have ee : PyData.eqv (toPy (dF g)) (toPy (dF g)) = true := by
    obtain ⟨a, b, c, d⟩ := g
    simp [toPy, toPys, PyData.eqv, PyData.eqvAll, dF, dI4]
  refine jss_cons (Ψ := fun ρ' => ρ' = [some (.d (.int n)), some (.d (.obj true (dF (stF n)))), some (.d (.int (ptA n))), some (.d (.int (ptB n))), some (.d (.tup [.obj true (dF g), .int i])), some (.d (.obj true (dF g))), some (.d (.int i)), some (.d (.bl sp)), some (.d pl)]) ?_ ?_
  · rcases hc with ⟨hp, hi, hd, m, hl⟩ | ⟨hp, hi, hh, hu, hd, m, hl⟩
    · have esp : sp = false := by
        cases sp
        · rfl
        · rw [hi3] at hi; exact absurd hi (by decide)
      subst esp
      refine js_if (c := false) (JT.eq (jt_neF (x := dF g) (y := dF g) hX (ok_eq A) (je_var 5) (je_call hX (ok_least_form A) (ja_cons (je_ifF (JT.eq (jt_val (je_var 7)) rfl) ⟨_, can_pe _⟩ (je_var 1)) ja_nil) ⟨stF n, g, m, rfl, h20, hd, hl, rfl⟩)) ?_) (fun h => nomatch h) (fun _ => jss_nil rfl)
      rw [ee]
      rfl
    · rw [R.hx] at hp hh hu hd hl
      have esp : sp = true := by
        cases sp
        · rw [hi3] at hi; exact absurd hi (by decide)
        · rfl
      subst esp
      have hplx : pl = .tup [prD (x, 1)] := by
        have : pl = plx x := hplx
        rw [this]
        rcases hp with rfl | rfl <;> rfl
      subst hplx
      refine js_if (c := false) (JT.eq (jt_neF (x := dF g) (y := dF g) hX (ok_eq A) (je_var 5) (je_call hX (ok_least_form A) (ja_cons (je_ifT (JT.eq (jt_val (je_var 7)) rfl) (je_call hX (ok_above A) (ja_cons (je_var 1) (ja_cons je_int (ja_cons (je_ix (l := [prD (x, 1)]) hX (je_var 8) je_int 0 rfl rfl) ja_nil))) ⟨stF n, x, rfl, hs, hp, hh, rfl⟩) ⟨_, can_pe _⟩) ja_nil) ⟨(stF n).up x, g, m, rfl, hu, hd, hl, rfl⟩)) ?_) (fun h => nomatch h) (fun _ => jss_nil rfl)
      rw [ee]
      rfl
  rintro ρ' rfl
  by_cases hD : (stF n).disc < -100000000
  · refine jss_stop (js_if (c := true) (JT.eq (jt_lt (je_prop hX (A.cls true) (ok_Form_discriminant A) (je_var 1) ⟨_, rfl, hs, rfl⟩) (je_neg (je_pow je_int je_int (by decide)))) (decide_eq_true hD)) (fun _ => ?_) (fun h => nomatch h))
    have g3 : D.tup (((plL (3 : Int).toNat).filter (heavyB g 3)).map prD) = .tup [] := by
      rw [show (3 : Int).toNat = 3 from rfl, R.g3]
      rfl
    have g2 : D.tup (((plL (2 : Int).toNat).filter (heavyB g 2)).map prD) = .tup [] := by
      rw [show (2 : Int).toNat = 2 from rfl, R.g2]
      rfl
    exact jss_one (js_ret (je_and (je_eqD (x := .tup []) (y := .tup []) hX (JE.eq (je_call hX (ok_heavy_places A) (ja_cons (je_var 5) (ja_cons je_int ja_nil)) ⟨_, _, rfl, R.sg, by decide, by decide, rfl⟩) g3) (je_tup ja_nil)) (je_one (je_eqD (x := .tup []) (y := .tup []) hX (JE.eq (je_call hX (ok_heavy_places A) (ja_cons (je_var 5) (ja_cons je_int ja_nil)) ⟨_, _, rfl, R.sg, by decide, by decide, rfl⟩) g2) (je_tup ja_nil)))) rfl)
  · refine jss_next (js_if (c := false) (JT.eq (jt_lt (je_prop hX (A.cls true) (ok_Form_discriminant A) (je_var 1) ⟨_, rfl, hs, rfl⟩) (je_neg (je_pow je_int je_int (by decide)))) (decide_eq_false hD)) (fun h => nomatch h) (fun _ => jss_nil rfl)) ?_
    obtain ⟨l, gg, m, hw, sgg, dgg, hl, hli, hb, hn⟩ := R.gr (by omega)
    have fdn := R.fd
    have gdn := R.gd
    have dle : g.disc.natAbs ≤ 100000000 := by
      have := R.dg
      rcases R.hi with ⟨rfl, _⟩ | ⟨rfl, _⟩ <;> omega
    have e1 : isNon (firstBar g (barP g)) = true := by rw [hb]; rfl
    have e2 : decide (x = 0) = !sp := by
      rcases R.hi with ⟨_, h, h2⟩ | ⟨_, rfl, h2⟩
      · rw [decide_eq_true h2] at hsp
        subst hsp
        rcases h with rfl | rfl <;> rfl
      · rw [decide_eq_false h2] at hsp
        subst hsp
        rfl
    refine jss_one (js_ret (je_and (je_eqTF (x := dF g) (y := dF g) (i := i) hX (ok_eq A) (JE.eq (je_call hX (ok_greatest A) (ja_cons (je_var 1) ja_nil) ⟨stF n, gg, g, l, m, rfl, hs, by omega, by omega, hw, sgg, dgg, hl, rfl⟩) (by rw [hli])) (je_var 4) ee) (je_and (JE.eq (je_call hX (ok_is_greatest A) (ja_cons (je_var 5) ja_nil) ⟨g, rfl, R.sg, by omega, dle, rfl⟩) (congrArg D.bl e1)) (je_one (je_neD (x := .bl (!sp)) (y := .bl sp) hX (JE.eq (je_call hX (ok_is_greatest A) (ja_cons (je_var 1) ja_nil) ⟨stF n, rfl, hs, by omega, by omega, rfl⟩) (congrArg D.bl (hn.trans e2))) (je_var 7))))) ?_)
    cases sp <;> rfl
end Fr
namespace Fr
open PySem PySem.Spec PyProof.Rows L2 StX
def AllRight : Prop := ∀ n : Int, 2 ≤ n → n ≤ 1000000000000 → ∃ g i x, RightN n g i x
def PreLr (c : Sl) (ds : List D) : Prop := ∃ (L : Addr) (l : List D), c = .cl L l ∧ CaskR 10 l ∧ ds = []
def PoLr (c : Sl) (ds : List D) (d : D) (c' : Sl) : Prop := ∃ (L : Addr) (l l' : List D), c = .cl L l ∧ d = .bl true ∧ c' = .cl L l'
theorem ok_law_right {T : Tx} (A : Al T) (M : AllRight) : CFn T "_law_right" 12 PreLr PoLr := by
  obtain ⟨f, fd, F, hm, hb⟩ := A.d_law_right.ex
  refine ⟨f, fd, _, fn_mkC (Pre := PreLr) (Po := PoLr) (n0 := "_law_cask_here") (N := N_law_right.tail) (k := 11) F sc_law_right (by rintro _ _ ⟨_, _, _, _, rfl⟩; rfl) (by rintro _ _ _ _ ⟨_, _, _, rfl, _, rfl⟩; exact rfl) fun cdv Ar outer sh Hh E hX c ds h => ?_, hm, F.kp, hb⟩
  have nd : ∀ i, (XB T N_law_right "_law_right" s_law_right f cdv Ar outer sh Hh E i).N.Nodup := fun _ => sc_law_right.nd
  obtain ⟨L, l, rfl, hc, rfl⟩ := h
  show JSs T (XB T N_law_right "_law_right" s_law_right f cdv Ar outer sh Hh E) (one L) [some (.cl L l), none, none] _ _
  have tap : ∀ {l l' : List D} {it : Int} {d : D} {c' : Sl}, PoT (.cl L l) [.int it] d c' → ∃ (r : Int) (l' : List D), d = .int r ∧ 0 ≤ r ∧ r < it ∧ c' = .cl L l' ∧ ∀ k, CaskR k l → CaskR (k + 1) l' := by
    rintro l l' it d c' ⟨L', l1, l', n, r, e1, e2, rfl, h1, h2, rfl, h3⟩
    injection e1 with e1 e1'
    subst e1 e1'
    simp only [List.cons.injEq, D.int.injEq, and_true] at e2
    exact ⟨r, l', rfl, h1, by omega, rfl, h3⟩
  refine jss_cons (Ψ := fun ρ' => ∃ (l1 : List D) (n : Int), ρ' = [some (.cl L l1), some (.d (.int n)), none] ∧ CaskR 11 l1 ∧ 2 ≤ n ∧ n < 1901) (js_setM 1 (jm_addL (Ω := fun d ρ' => ∃ (r : Int) (l' : List D), d = .int r ∧ 0 ≤ r ∧ r < 1899 ∧ ρ' = [some (.cl L l'), none, none] ∧ CaskR 11 l') (Ψ := fun d ρ' => ∃ (r : Int) (l' : List D), d = .int (2 + r) ∧ 0 ≤ r ∧ r < 1899 ∧ ρ' = [some (.cl L l'), none, none] ∧ CaskR 11 l') je_int (jm_callC 0 hX (ok_law_tap A) (ja_cons je_int ja_nil) ⟨L, l, 10, _, rfl, hc, by decide, rfl, by decide, by decide⟩ (fun _ h => h) rfl rfl ?_) ?_) ?_ nd) ?_
  · intro d c' h
    obtain ⟨r, l', rfl, h1, h2, rfl, h3⟩ := tap (l' := l) h
    exact ⟨r, l', rfl, h1, h2, rfl, h3 10 hc⟩
  · rintro d ρ' ⟨r, l', rfl, h1, h2, rfl, h3⟩
    exact ⟨r, rfl, r, l', rfl, h1, h2, rfl, h3⟩
  · rintro d ρ' ⟨r, l', rfl, h1, h2, rfl, h3⟩
    exact ⟨l', 2 + r, rfl, h3, by omega, by omega⟩
  rintro ρ' ⟨l1, n, rfl, hc1, hn1, hn2⟩
  refine jss_cons (Ψ := fun ρ' => ∃ (l2 : List D) (m : Int), ρ' = [some (.cl L l2), some (.d (.int n)), some (.d (.int m))] ∧ CaskR 12 l2 ∧ 2 ≤ m ∧ m ≤ 1000000000000) (js_setM 2 (jm_addL (Ω := fun d ρ' => ∃ (r : Int) (l' : List D), d = .int r ∧ 0 ≤ r ∧ r < 999999999999 ∧ ρ' = [some (.cl L l'), some (.d (.int n)), none] ∧ CaskR 12 l') (Ψ := fun d ρ' => ∃ (r : Int) (l' : List D), d = .int (2 + r) ∧ 0 ≤ r ∧ r < 999999999999 ∧ ρ' = [some (.cl L l'), some (.d (.int n)), none] ∧ CaskR 12 l') je_int (jm_callC 0 hX (ok_law_tap A) (ja_cons (JE.eq (je_sub (je_pow je_int je_int (by decide)) je_int) (show _ = D.int 999999999999 from congrArg D.int (by decide))) ja_nil) ⟨L, l1, 11, _, rfl, hc1, by decide, rfl, by decide, by decide⟩ (fun _ h => h) rfl rfl ?_) ?_) ?_ nd) ?_
  · intro d c' h
    obtain ⟨r, l', rfl, h1, h2, rfl, h3⟩ := tap (l' := l) h
    exact ⟨r, l', rfl, h1, h2, rfl, h3 11 hc1⟩
  · rintro d ρ' ⟨r, l', rfl, h1, h2, rfl, h3⟩
    exact ⟨r, rfl, r, l', rfl, h1, h2, rfl, h3⟩
  · rintro d ρ' ⟨r, l', rfl, h1, h2, rfl, h3⟩
    exact ⟨l', 2 + r, rfl, h3, by omega, by omega⟩
  rintro ρ' ⟨l2, m, rfl, hc2, hm1, hm2⟩
  obtain ⟨g, i, x, R⟩ := M n hn1 (by omega)
  have it : JE T (XB T N_law_right "_law_right" s_law_right f cdv Ar outer sh Hh E) [some (.cl L l2), some (.d (.int n)), some (.d (.int m))] (match defBody s_law_right with | _ :: _ :: .Return (some (.BoolOp _ [_, .Call _ [.Call _ [_, e] _ _] _ _] _)) _ :: _ => e | _ => .Constant .none 0 ⟨0, 0, 0, 0⟩) (.lst [.int m, .int (if m > 17 then 9 * (m / 9) + 1 else 10), .int n]) := by
    refine je_lst (ja_cons (je_var 2) (ja_cons (JE.eq (je_if (c := decide (m > 17)) (jt_gt (je_var 2) je_int) (je_add (je_mul (JI.int 3) (JI.x (je_div (je_var 2) (JI.int 3) (by decide)) ?_)) je_int) (je_int (i := 10))) ?_) (ja_cons (je_var 1) ja_nil)))
    · exact Nat.lt_of_lt_of_le (show (m / 9).natAbs < 2 ^ 64 by omega) (Nat.pow_le_pow_right (by decide) (by decide))
    · by_cases h : m > 17
      · rw [decide_eq_true h, if_pos h]; rfl
      · rw [decide_eq_false h, if_neg h]; rfl
  refine jss_one (js_retM (jm_and (c0 := true) (Ψ := fun d ρ' => ∃ l' : List D, d = .bl true ∧ ρ' = [some (.cl L l'), some (.d (.int n)), some (.d (.int m))]) (je_call hX (ok_law_is_right A) (ja_cons (je_var 1) ja_nil) ⟨n, g, i, x, rfl, R, rfl⟩) (fun h => nomatch h) (fun _ => jm_one (jm_call1 (Ω := fun d ρ' => ∃ l' : List D, (∃ q : Int, d = .int q ∧ 2 ≤ q ∧ q ≤ 1000000000000) ∧ ρ' = [some (.cl L l'), some (.d (.int n)), some (.d (.int m))]) hX (ok_law_is_right A) (jm_callC 0 hX (ok_law_one A) (ja_cons it ja_nil) ⟨L, l2, 12, _, rfl, hc2, by decide, rfl, by simp, by show 3 ≤ 100; decide⟩ (fun _ h => h) rfl rfl ?_) ?_))) ?_)
  · rintro d c' ⟨L', l3, l', it, e1, e2, h1, rfl, h3⟩
    injection e1 with e1 e1'
    subst e1 e1'
    simp only [List.cons.injEq, D.lst.injEq, and_true] at e2
    subst e2
    refine ⟨l', ?_, rfl⟩
    simp only [List.mem_cons, List.not_mem_nil, or_false] at h1
    rcases h1 with rfl | rfl | rfl
    · exact ⟨_, rfl, hm1, hm2⟩
    · refine ⟨_, rfl, ?_⟩
      split <;> omega
    · exact ⟨_, rfl, hn1, by omega⟩
  · rintro d ρ' ⟨l', ⟨q, rfl, q1, q2⟩, rfl⟩
    obtain ⟨g, i, x, R⟩ := M q q1 q2
    exact ⟨_, ⟨q, g, i, x, rfl, R, rfl⟩, l', rfl, rfl⟩
  · rintro d ρ' ⟨l', rfl, rfl⟩
    exact ⟨_, _, rfl, rfl, L, l, l', rfl, rfl, rfl⟩
end Fr
namespace Fr
open PySem PySem.Spec PyProof.Rows L2 StX
def Small3 : Prop := ThrR 2 ⟨1, 3, 3, 3⟩ 1 ∧ ThrR 10 ⟨2, 2, 4, 1⟩ 3 ∧ ThrR 12 ⟨2, 6, 6, 5⟩ 1
theorem ok_law {T : Tx} (A : Al T) (M : AllRight) (S3 : Small3) {f : Addr} {fd : FuncData} (F : FunX T "law" "law" s_law f fd) : FnOk T.P T.w T.K T.mg T.base CX0 14 f fd P_law (SpP T (fun ds r => ∃ l : List Int, ds = [.lst (l.map .int)] ∧ r = .bl true)) := by
  refine fn_mk (N := N_law) (k := 13) F sc_law (by rintro _ _ ⟨_, rfl, _⟩; rfl) fun cdv Ar outer sh Hh E hX ds d h => ?_
  have nd : ∀ i, (XB T N_law "law" s_law f cdv Ar outer sh Hh E i).N.Nodup := fun _ => sc_law.nd
  obtain ⟨l, rfl, rfl⟩ := h
  have hmm : ∃ z : Nat, z ≤ 3 ∧ JE T (XB T N_law "law" s_law f cdv Ar outer sh Hh E) (startE N_law [.lst (l.map .int)]) (match defBody s_law with | .For _ (.Call _ [e] _ _) _ _ _ :: _ => e | _ => .Constant .none 0 ⟨0, 0, 0, 0⟩) (.int z) := by
    refine ⟨(max 1 (min 3 l.length)), by omega, JE.eq (je_max2 hX A.b_max (ja_cons je_int (ja_cons (je_min2 hX A.b_min (ja_cons je_int (ja_cons (je_lenL hX A.b_len (je_var 0)) ja_nil))) ja_nil))) ?_⟩
    rw [List.length_map]
    congr 1
    split <;> split at * <;> omega
  obtain ⟨z, hz, hmm⟩ := hmm
  refine jss_cons (Ψ := fun ρ' => ∃ a b, ρ' = [some (.d (.lst (l.map .int))), a, b, none, none, none] ∧ plainS a = true ∧ plainS b = true) (js_forW hX (fun _ => noPass) (jit_range1 hX A.b_range hmm ⟨by omega, by omega⟩) (fun z ρ' => ∃ a b, ρ' = [some (.d (.lst (l.map .int))), a, b, none, none, none] ∧ plainS a = true ∧ plainS b = true) ⟨none, none, rfl, rfl, rfl⟩ ?_ fun ρ' h => h) ?_
  · rintro i d ρ' hd ⟨a, b, rfl, pa, pb⟩
    obtain ⟨s, hs, rfl⟩ : ∃ s : Nat, s ≤ 3 ∧ d = .int s := by
      have hm := List.mem_of_getElem? hd
      unfold rngD at hm
      obtain ⟨s, hs, rfl⟩ := List.mem_map.mp hm
      have := List.mem_range.mp hs
      exact ⟨s, by omega, by rw [Int.zero_add]⟩
    refine jg_name 1 nd ?_
    refine jss_openCall 2 hX (ok_law_cask A) (ja_cons (je_var 0) (ja_cons (je_var 1) ja_nil)) ⟨l, s, rfl, hs⟩ nd fun c L hc => ?_
    obtain ⟨c0, c1, rfl, h1, h2, h3, h4⟩ := hc
    refine jss_one (js_ifNotM (Ψ := fun d ρ' => ∃ l' : List D, d = .bl true ∧ ρ' = [some (.d (.lst (l.map .int))), some (.d (.int s)), some (.cl L l'), none, none, none]) (jm_callC 2 hX (ok_law_right A M) ja_nil ⟨L, _, rfl, ⟨c0, c1, 0, rfl, h1, h3, h4, by decide, by decide⟩, rfl⟩ (fun a h => .inr h) rfl rfl ?_) ?_)
    · rintro d c' ⟨L', l1, l', e1, rfl, rfl⟩
      injection e1 with e1 e1'
      subst e1
      exact ⟨l', rfl, rfl⟩
    · rintro d ρ' ⟨l', rfl, rfl⟩
      exact ⟨true, rfl, (fun h => nomatch h), fun _ => jss_nil ⟨_, .cons (.so (.d _)) (.cons (.so (.d _)) (.cons (.so (.cl _ rfl)) (.cons (.no _) (.cons (.no _) (.cons (.no _) .nil))))), _, _, rfl, rfl, rfl⟩⟩
  rintro ρ' ⟨a, b, rfl, pa, pb⟩
  refine jss_next (js_setLcW (own := [("_law_form", 4), ("_law_index", 5)]) (g := gTup T.K 2 (gCons (gName 4) (gCons (gName 5) gNil))) (fr := fun d => match d with | .tup [x, y] => [some (.d (.lst (l.map .int))), a, b, none, some (.d x), some (.d y)] | _ => []) (src := [.tup [.obj true (dF ⟨1, 3, 3, 3⟩), .int 1], .tup [.obj true (dF ⟨2, 2, 4, 1⟩), .int 3], .tup [.obj true (dF ⟨2, 6, 6, 5⟩), .int 1]]) (t := fun _ => true) (f := fun d => match d with | .tup [.obj _ (.tup [.int p, _, _, .int q]), y] => .tup [.str (if p = 1 then "(1, 3, 3, 3)" else if q = 1 then "(2, 2, 4, 1)" else "(2, 6, 6, 5)"), y] | _ => d) 3 hX nd (fun _ => blkOk_by rfl) (jit_tup hX (je_tup (ja_cons (je_call hX (ok_third_greatest A) (ja_cons je_int ja_nil) ⟨_, _, _, rfl, S3.1, rfl⟩) (ja_cons (je_call hX (ok_third_greatest A) (ja_cons je_int ja_nil) ⟨_, _, _, rfl, S3.2.1, rfl⟩) (ja_cons (je_call hX (ok_third_greatest A) (ja_cons je_int ja_nil) ⟨_, _, _, rfl, S3.2.2, rfl⟩) ja_nil))))) (by decide) (fun i => ?_) (fun d hd => ?_) (.inl ⟨rfl, fun _ _ => rfl⟩) (fun d hd _ => ?_) rfl) ?_
  · rw [← hX.K i.1]
    exact pg_tup (hX.calm i.1) (pgs_cons (pg_name (nd i.1) rfl (.inl rfl) (.inr rfl)) (pgs_cons (pg_name (nd i.1) rfl (.inl rfl) (.inr rfl)) pgs_nil rfl) rfl) rfl rfl
  · simp only [List.mem_cons, List.not_mem_nil, or_false] at hd
    rcases hd with rfl | rfl | rfl <;> exact lcg_pair (by decide)
  · simp only [List.mem_cons, List.not_mem_nil, or_false] at hd
    rcases hd with rfl | rfl | rfl
    · exact je_tup (ja_cons (je_strF (hX.blk _) A.b_str (ok_str A) (je_var 4) ⟨_, _, rfl, .a, rfl⟩) (ja_cons (je_var 5) ja_nil))
    · exact je_tup (ja_cons (je_strF (hX.blk _) A.b_str (ok_str A) (je_var 4) ⟨_, _, rfl, .b, rfl⟩) (ja_cons (je_var 5) ja_nil))
    · exact je_tup (ja_cons (je_strF (hX.blk _) A.b_str (ok_str A) (je_var 4) ⟨_, _, rfl, .c, rfl⟩) (ja_cons (je_var 5) ja_nil))
  show JSs T _ _ [some (.d (.lst (l.map .int))), a, b, some (.d (.lst [.tup [.str "(1, 3, 3, 3)", .int 1], .tup [.str "(2, 2, 4, 1)", .int 3], .tup [.str "(2, 6, 6, 5)", .int 1]])), none, none] _ _
  refine jss_one (js_ret (je_eqD (y := .lst [.tup [.str "(1, 3, 3, 3)", .int 1], .tup [.str "(2, 2, 4, 1)", .int 3], .tup [.str "(2, 6, 6, 5)", .int 1]]) hX (je_var 3) (je_lst (ja_cons (je_tup (ja_cons je_str (ja_cons je_int ja_nil))) (ja_cons (je_tup (ja_cons je_str (ja_cons je_int ja_nil))) (ja_cons (je_tup (ja_cons je_str (ja_cons je_int ja_nil))) ja_nil)))) (s1 := by decide +kernel) (s2 := by decide +kernel)) (rbl ?_))
  decide +kernel
end Fr
namespace Fr
/-! ### what single steps keep -/
def Fo.dx (f : Fo) (x y : Int) : Int := 3 * f.a * x * x + 2 * f.b * x * y + f.c * y * y
def Fo.dy (f : Fo) (x y : Int) : Int := f.b * x * x + 2 * f.c * x * y + 3 * f.d * y * y
def NR (f : Fo) : Prop := ∀ x y, f.at x y = 0 → x = 0 ∧ y = 0
def NH (l : Int) (f : Fo) : Prop := ∀ x y, l * l ∣ f.at x y → l ∣ f.dx x y → l ∣ f.dy x y → l ∣ x ∧ l ∣ y
def CT (l : Int) (f : Fo) : Prop := ¬ (l ∣ f.a ∧ l ∣ f.b ∧ l ∣ f.c ∧ l ∣ f.d)
/-- f becomes g: what is kept -/
structure Kp (f g : Fo) : Prop where
  disc : g.disc = f.disc
  nr : NR f → NR g
  nh : ∀ l, NH l f → NH l g
  ct : ∀ l, CT l f → CT l g
theorem Kp.refl (f : Fo) : Kp f f := ⟨rfl, id, fun _ => id, fun _ => id⟩
theorem Kp.trans {f g h : Fo} (u : Kp f g) (v : Kp g h) : Kp f h := ⟨v.disc.trans u.disc, v.nr ∘ u.nr, fun l => v.nh l ∘ u.nh l, fun l => v.ct l ∘ u.ct l⟩
def fSh (f : Fo) (s : Int) : Fo := ⟨f.a, 3 * f.a * s + f.b, 3 * f.a * s * s + 2 * f.b * s + f.c, ((f.a * s + f.b) * s + f.c) * s + f.d⟩
def fEx (f : Fo) : Fo := ⟨f.d, -f.c, f.b, -f.a⟩
def fOp (f : Fo) : Fo := ⟨-f.a, -f.b, -f.c, -f.d⟩
def fMi (f : Fo) : Fo := ⟨f.a, -f.b, f.c, -f.d⟩
theorem fo_ext {f g : Fo} (h1 : f.a = g.a) (h2 : f.b = g.b) (h3 : f.c = g.c) (h4 : f.d = g.d) : f = g := by
  cases f; cases g; simp only at *; subst h1 h2 h3 h4; rfl
theorem led_sh (f : Fo) (s : Int) : f.led ⟨1, 0, s, 1⟩ = fSh f s := by
  unfold Fo.led fSh fAt
  congr 1 <;> dsimp only <;> grind
theorem led_ex (f : Fo) : f.led ⟨0, 1, -1, 0⟩ = fEx f := by
  unfold Fo.led fEx fAt
  congr 1 <;> dsimp only <;> grind
theorem led_op (f : Fo) : f.led ⟨-1, 0, 0, -1⟩ = fOp f := by
  unfold Fo.led fOp fAt
  congr 1 <;> dsimp only <;> grind
theorem led_mi (f : Fo) : f.led ⟨-1, 0, 0, 1⟩ = fMi f := by
  unfold Fo.led fMi fAt
  congr 1 <;> dsimp only <;> grind
theorem fSh_zero (f : Fo) : fSh f 0 = f := by
  apply fo_ext <;> simp [fSh]
theorem at_sh (f : Fo) (s x y : Int) : (fSh f s).at x y = f.at (x + s * y) y := by
  unfold Fo.at fSh fAt; dsimp only; grind
theorem at_ex (f : Fo) (x y : Int) : (fEx f).at x y = f.at (-y) x := by
  unfold Fo.at fEx fAt; dsimp only; grind
theorem at_op (f : Fo) (x y : Int) : (fOp f).at x y = f.at (-x) (-y) := by
  unfold Fo.at fOp fAt; dsimp only; grind
theorem at_mi (f : Fo) (x y : Int) : (fMi f).at x y = -f.at (-x) y := by
  unfold Fo.at fMi fAt; dsimp only; grind
theorem dm {l a : Int} (h : l ∣ a) (c : Int) : l ∣ c * a := Int.dvd_trans h (Int.dvd_mul_left _ _)
theorem dvd_lin {l a b : Int} (s : Int) (h : l ∣ a) (k : l ∣ b) : l ∣ a + s * b := Int.dvd_add h (dm k s)
theorem dvd_of_lin {l a b : Int} (s : Int) (h : l ∣ a + s * b) (k : l ∣ b) : l ∣ a := by
  have := Int.dvd_sub h (dm k s)
  rwa [Int.add_sub_cancel] at this
theorem kp_sh (f : Fo) (s : Int) : Kp f (fSh f s) := by
  refine ⟨?_, fun h x y e => ?_, fun l h x y e1 e2 e3 => ?_, fun l h k => h ?_⟩
  · unfold Fo.disc fSh; dsimp only; grind
  · rw [at_sh] at e
    obtain ⟨h1, h2⟩ := h _ _ e
    subst h2
    exact ⟨by omega, rfl⟩
  · rw [at_sh] at e1
    have e2 : l ∣ f.dx (x + s * y) y := by
      rw [show f.dx (x + s * y) y = (fSh f s).dx x y by unfold Fo.dx fSh; dsimp only; grind]; exact e2
    have e3 : l ∣ f.dy (x + s * y) y := by
      have : (fSh f s).dy x y = f.dy (x + s * y) y + s * f.dx (x + s * y) y := by unfold Fo.dx Fo.dy fSh; dsimp only; grind
      rw [this] at e3
      exact dvd_of_lin _ e3 e2
    obtain ⟨h1, h2⟩ := h _ _ e1 e2 e3
    exact ⟨dvd_of_lin _ h1 h2, h2⟩
  · obtain ⟨k1, k2, k3, k4⟩ := k
    have k1 : l ∣ f.a := k1
    have k2 : l ∣ f.b := by
      have := Int.dvd_sub k2 (dm k1 (3 * s))
      rwa [show (fSh f s).b - 3 * s * f.a = f.b by unfold fSh; dsimp only; grind] at this
    have k3 : l ∣ f.c := by
      have := Int.dvd_sub k3 (Int.dvd_add (dm k1 (3 * s * s)) (dm k2 (2 * s)))
      rwa [show (fSh f s).c - (3 * s * s * f.a + 2 * s * f.b) = f.c by unfold fSh; dsimp only; grind] at this
    have k4 : l ∣ f.d := by
      have := Int.dvd_sub k4 (Int.dvd_add (Int.dvd_add (dm k1 (s * s * s)) (dm k2 (s * s))) (dm k3 (s)))
      rwa [show (fSh f s).d - (s * s * s * f.a + s * s * f.b + s * f.c) = f.d by unfold fSh; dsimp only; grind] at this
    exact ⟨k1, k2, k3, k4⟩
theorem kp_ex (f : Fo) : Kp f (fEx f) := by
  refine ⟨?_, fun h x y e => ?_, fun l h x y e1 e2 e3 => ?_, fun l h k => h ?_⟩
  · unfold Fo.disc fEx; dsimp only; grind
  · rw [at_ex] at e
    obtain ⟨h1, h2⟩ := h _ _ e
    exact ⟨by omega, by omega⟩
  · rw [at_ex] at e1
    have e3 : l ∣ f.dx (-y) x := by
      rw [show f.dx (-y) x = -(fEx f).dy x y by unfold Fo.dx Fo.dy fEx; dsimp only; grind]; exact Int.dvd_neg.mpr e3
    have e2 : l ∣ f.dy (-y) x := by
      rw [show f.dy (-y) x = (fEx f).dx x y by unfold Fo.dx Fo.dy fEx; dsimp only; grind]; exact e2
    obtain ⟨h1, h2⟩ := h _ _ e1 e3 e2
    exact ⟨h2, Int.dvd_neg.mp h1⟩
  · obtain ⟨k1, k2, k3, k4⟩ := k
    exact ⟨Int.dvd_neg.mp k4, k3, Int.dvd_neg.mp k2, k1⟩
theorem kp_op (f : Fo) : Kp f (fOp f) := by
  refine ⟨?_, fun h x y e => ?_, fun l h x y e1 e2 e3 => ?_, fun l h k => h ?_⟩
  · unfold Fo.disc fOp; dsimp only; grind
  · rw [at_op] at e
    obtain ⟨h1, h2⟩ := h _ _ e
    exact ⟨by omega, by omega⟩
  · rw [at_op] at e1
    have e3 : l ∣ f.dy (-x) (-y) := by
      rw [show f.dy (-x) (-y) = -(fOp f).dy x y by unfold Fo.dy fOp; dsimp only; grind]; exact Int.dvd_neg.mpr e3
    have e2 : l ∣ f.dx (-x) (-y) := by
      rw [show f.dx (-x) (-y) = -(fOp f).dx x y by unfold Fo.dx fOp; dsimp only; grind]; exact Int.dvd_neg.mpr e2
    obtain ⟨h1, h2⟩ := h _ _ e1 e2 e3
    exact ⟨Int.dvd_neg.mp h1, Int.dvd_neg.mp h2⟩
  · obtain ⟨k1, k2, k3, k4⟩ := k
    exact ⟨Int.dvd_neg.mp k1, Int.dvd_neg.mp k2, Int.dvd_neg.mp k3, Int.dvd_neg.mp k4⟩
theorem kp_mi (f : Fo) : Kp f (fMi f) := by
  refine ⟨?_, fun h x y e => ?_, fun l h x y e1 e2 e3 => ?_, fun l h k => h ?_⟩
  · unfold Fo.disc fMi; dsimp only; grind
  · rw [at_mi] at e
    obtain ⟨h1, h2⟩ := h (-x) y (by omega)
    exact ⟨by omega, by omega⟩
  · rw [at_mi] at e1
    have e3 : l ∣ f.dy (-x) y := by
      rw [show f.dy (-x) y = -(fMi f).dy x y by unfold Fo.dy fMi; dsimp only; grind]; exact Int.dvd_neg.mpr e3
    have e2 : l ∣ f.dx (-x) y := by
      rw [show f.dx (-x) y = (fMi f).dx x y by unfold Fo.dx fMi; dsimp only; grind]; exact e2
    obtain ⟨h1, h2⟩ := h _ _ (Int.dvd_neg.mp e1) e2 e3
    exact ⟨Int.dvd_neg.mp h1, h2⟩
  · obtain ⟨k1, k2, k3, k4⟩ := k
    exact ⟨k1, Int.dvd_neg.mp k2, k3, Int.dvd_neg.mp k4⟩
theorem opp_f (w : Wa) : w.opp.f = if w.f.a < 0 then fOp w.f else w.f := by
  unfold Wa.opp Wa.st
  split
  · exact led_op _
  · rfl
theorem sh_f (w : Wa) (s : Int) : (w.sh s).f = fSh w.f s := by
  unfold Wa.sh Wa.st
  split
  · rename_i h
    subst h
    exact (fSh_zero _).symm
  · exact led_sh _ _
theorem fin_f (w : Wa) : w.fin.f = if w.f.b < 0 ∨ (w.f.b = 0 ∧ w.f.d < 0) then fMi w.f else w.f := by
  unfold Wa.fin Wa.st
  split
  · exact led_mi _
  · rfl
theorem kp_opp (w : Wa) : Kp w.f w.opp.f := by
  rw [opp_f]
  split
  · exact kp_op _
  · exact Kp.refl _
theorem kp_shw (w : Wa) (s : Int) : Kp w.f (w.sh s).f := by
  rw [sh_f]; exact kp_sh _ _
theorem kp_exw (w : Wa) : Kp w.f w.ex.f := by
  unfold Wa.ex
  split
  · exact Kp.refl _
  · refine Kp.trans ?_ (kp_opp _)
    show Kp w.f (w.f.led ⟨0, 1, -1, 0⟩)
    rw [led_ex]
    exact kp_ex _
theorem kp_fin (w : Wa) : Kp w.f w.fin.f := by
  rw [fin_f]
  split
  · exact kp_mi _
  · exact Kp.refl _
theorem Runs.kp : ∀ {n : Nat} {w x : Wa}, Runs n w x → Kp w.f x.f
  | _, _, _, .done _ _ => Kp.refl _
  | _, _, _, .turn _ _ _ _ _ r => (kp_shw _ _).trans ((kp_exw _).trans r.kp)
theorem kp_lead {f g : Fo} {m : Ma} (h : LeadR f g m) (nr : NR f) : Kp f g := by
  cases h with
  | root h =>
    cases h with
    | a =>
      have := nr (-1) 1 (by decide)
      omega
    | b =>
      have := nr 1 0 (by decide)
      omega
  | free _ _ r => exact (kp_opp _).trans (r.kp.trans (kp_fin _))
end Fr
namespace Fr
/-! ### primes -/
structure Pri (p : Int) : Prop where
  two : 2 ≤ p
  no : ∀ d, 2 ≤ d → d < p → ¬ d ∣ p
theorem Pri.mul {p a b : Int} (h : Pri p) (k : p ∣ a * b) : p ∣ a ∨ p ∣ b := by
  have h2 := h.two
  have g1 : ((Int.gcd p a : Nat) : Int) ∣ p := Int.gcd_dvd_left ..
  have g2 : ((Int.gcd p a : Nat) : Int) ∣ a := Int.gcd_dvd_right ..
  have hle := Int.le_of_dvd (by omega) g1
  have g0 : 0 < Int.gcd p a := Int.gcd_pos_of_ne_zero_left _ (by omega)
  by_cases e : Int.gcd p a = 1
  · right
    have : Nat.Coprime p.natAbs a.natAbs := e
    have k' := Int.natAbs_dvd_natAbs.mpr k
    rw [Int.natAbs_mul] at k'
    exact Int.natAbs_dvd_natAbs.mp (this.dvd_of_dvd_mul_left k')
  · left
    by_cases e2 : ((Int.gcd p a : Nat) : Int) = p
    · rw [e2] at g2; exact g2
    · exact absurd g1 (h.no _ (by omega) (by omega))
theorem pri_ex : ∀ (k : Nat) (n : Int), 2 ≤ n → n.toNat ≤ k → ∃ p, Pri p ∧ p ∣ n
  | 0, n, h, hk => by omega
  | k + 1, n, h, hk => by
    by_cases c : ∃ d, 2 ≤ d ∧ d < n ∧ d ∣ n
    · obtain ⟨d, h1, h2, h3⟩ := c
      obtain ⟨p, hp, hd⟩ := pri_ex k d h1 (by omega)
      exact ⟨p, hp, Int.dvd_trans hd h3⟩
    · exact ⟨n, ⟨h, fun d h1 h2 h3 => c ⟨d, h1, h2, h3⟩⟩, Int.dvd_refl _⟩
theorem Pri.sq {p a : Int} (h : Pri p) (k : p ∣ a * a) : p ∣ a := by
  rcases h.mul k with q | q <;> exact q
theorem Pri.cu {p a : Int} (h : Pri p) (k : p ∣ a * a * a) : p ∣ a := by
  rcases h.mul k with q | q
  · exact h.sq q
  · exact q
theorem Pri.ne1 {p : Int} (h : Pri p) : ¬ p ∣ 1 := fun k => by
  have := Int.le_of_dvd (by decide) k
  have := h.two
  omega
theorem pri2 : Pri 2 := ⟨by decide, fun d h1 h2 => by omega⟩
theorem pri3 : Pri 3 := ⟨by decide, fun d h1 h2 h3 => by
  have : d = 2 := by omega
  subst this
  revert h3; decide⟩
theorem Pri.eq {p q : Int} (h : Pri p) (k : Pri q) (d : p ∣ q) : p = q := by
  have := Int.le_of_dvd (by have := k.two; omega) d
  by_cases e : p = q
  · exact e
  · exact absurd d (k.no p h.two (by omega))
/-! ### the pair (a, b) -/
structure AB (a b : Int) : Prop where
  a1 : 1 ≤ a
  b1 : 1 ≤ b
  co : ∀ p, Pri p → p ∣ a → p ∣ b → False
  sa : ∀ p, Pri p → p * p ∣ a → False
  sb : ∀ p, Pri p → p * p ∣ b → False
theorem AB.swap {a b : Int} (h : AB a b) : AB b a := ⟨h.b1, h.a1, fun p hp h1 h2 => h.co p hp h2 h1, h.sb, h.sa⟩
theorem AB.step {a b p x y : Int} (h : AB a b) (hp : Pri p) (ha : p ∣ a) (e : a * x * x * x + b * y * y * y = 0) : p ∣ x ∧ p ∣ y := by
  have hpp : p ≠ 0 := by have := hp.two; omega
  obtain ⟨a', rfl⟩ := ha
  have na : ¬ p ∣ a' := fun k => h.sa p hp (Int.mul_dvd_mul_left p k)
  have nb : ¬ p ∣ b := fun k => h.co p hp (Int.dvd_mul_right _ _) k
  have hy : p ∣ y := by
    have : p ∣ b * (y * y * y) := ⟨-(a' * x * x * x), by grind⟩
    rcases hp.mul this with q | q
    · exact absurd q nb
    · exact hp.cu q
  obtain ⟨y', rfl⟩ := hy
  have hx : p ∣ x := by
    have : a' * (x * x * x) = p * (p * (-(b * y' * y' * y'))) := Int.eq_of_mul_eq_mul_left hpp (by grind)
    rcases hp.mul (a := a') ⟨_, this⟩ with q | q
    · exact absurd q na
    · exact hp.cu q
  exact ⟨hx, Int.dvd_mul_right _ _⟩
theorem AB.no0 {a b : Int} (h : AB a b) (ha : 2 ≤ a) : ∀ (k : Nat) (x y : Int), x.natAbs + y.natAbs ≤ k → a * x * x * x + b * y * y * y = 0 → x = 0 ∧ y = 0
  | 0, x, y, hk, e => by omega
  | k + 1, x, y, hk, e => by
    obtain ⟨p, hp, hd⟩ := pri_ex a.toNat a ha (Nat.le_refl _)
    obtain ⟨⟨x', rfl⟩, ⟨y', rfl⟩⟩ := h.step hp hd e
    have h2 := hp.two
    have e' : a * x' * x' * x' + b * y' * y' * y' = 0 := by
      have : (p * (p * p)) * (a * x' * x' * x' + b * y' * y' * y') = 0 := by grind
      have q : p * (p * p) ≠ 0 := Int.mul_ne_zero (by omega) (Int.mul_ne_zero (by omega) (by omega))
      rcases Int.mul_eq_zero.mp this with z | z
      · exact absurd z q
      · exact z
    by_cases z : x' = 0 ∧ y' = 0
    · rw [z.1, z.2]; simp
    · rw [Int.natAbs_mul, Int.natAbs_mul] at hk
      have c1 : 2 * x'.natAbs ≤ p.natAbs * x'.natAbs := Nat.mul_le_mul_right _ (by omega)
      have c2 : 2 * y'.natAbs ≤ p.natAbs * y'.natAbs := Nat.mul_le_mul_right _ (by omega)
      obtain ⟨r1, r2⟩ := AB.no0 h ha k x' y' (by omega) e'
      exact absurd ⟨r1, r2⟩ z
theorem AB.no {a b x y : Int} (h : AB a b) (hn : ¬ (a = 1 ∧ b = 1)) (e : a * x * x * x + b * y * y * y = 0) : x = 0 ∧ y = 0 := by
  have h1 := h.a1
  have h2 := h.b1
  by_cases ha : 2 ≤ a
  · exact h.no0 ha _ x y (Nat.le_refl _) e
  · have := h.swap.no0 (by omega) _ y x (Nat.le_refl _) (by omega)
    exact this.symm
/-! ### the form of a pair -/
def fS (a b : Int) : Fo := ⟨a, 0, 0, b⟩
theorem at_S (a b x y : Int) : (fS a b).at x y = a * x * x * x + b * y * y * y := by
  unfold Fo.at fS fAt; dsimp only; grind
theorem AB.nrS {a b : Int} (h : AB a b) (hn : ¬ (a = 1 ∧ b = 1)) : NR (fS a b) := fun x y e => h.no hn (by rw [at_S] at e; exact e)
def fU (a x e : Int) : Fo := ⟨3 * a, 3 * a * x, a * x * x, e⟩
theorem up_S {a b x e : Int} (h : a * x * x * x + b = 9 * e) : (fS a b).up x = fU a x e := by
  unfold Fo.up Fo.slope fS fU fAt
  apply fo_ext <;> dsimp only
  · grind
  · grind
  · rw [show 3 * a * x * x + 2 * 0 * x + 0 = 3 * (a * x * x) by grind]; omega
  · rw [show ((a * x + 0 * 1) * x + 0 * 1 * 1) * x + b * 1 * 1 * 1 = 9 * e by grind]; omega
theorem at_U {a b x e : Int} (h : a * x * x * x + b = 9 * e) (X Y : Int) : 9 * (fU a x e).at X Y = (fS a b).at (3 * X + x * Y) Y := by
  unfold Fo.at fU fS fAt; dsimp only; grind
theorem AB.nrU {a b x e : Int} (h : AB a b) (hn : ¬ (a = 1 ∧ b = 1)) (he : a * x * x * x + b = 9 * e) : NR (fU a x e) := fun X Y k => by
  have := at_U he X Y
  rw [k] at this
  obtain ⟨h1, rfl⟩ := h.nrS hn _ _ this.symm
  exact ⟨by omega, rfl⟩
theorem disc_S (a b : Int) : (fS a b).disc = -27 * (a * a * (b * b)) := by
  unfold Fo.disc fS; dsimp only; grind
theorem disc_U {a b x e : Int} (h : a * x * x * x + b = 9 * e) : (fU a x e).disc = -3 * (a * a * (b * b)) := by
  have : b = 9 * e - a * x * x * x := by omega
  subst this
  unfold Fo.disc fU; dsimp only; grind
/-! ### primes that are heavy nowhere -/
theorem AB.nh1 {a b l x y : Int} (h : AB a b) (hl : Pri l) (hal : l ∣ a) (h1 : l * l ∣ a * x * x * x + b * y * y * y) (h3 : l ∣ b * (y * y * y)) : l ∣ x ∧ l ∣ y := by
  have nb : ¬ l ∣ b := fun k => h.co l hl hal k
  have hy : l ∣ y := by
    rcases hl.mul h3 with q | q
    · exact absurd q nb
    · exact hl.cu q
  refine ⟨?_, hy⟩
  obtain ⟨y', rfl⟩ := hy
  obtain ⟨a', rfl⟩ := hal
  obtain ⟨k, hk⟩ := h1
  have na : ¬ l ∣ a' := fun k => h.sa l hl (Int.mul_dvd_mul_left l k)
  have : a' * (x * x * x) = l * (k - l * b * y' * y' * y') := Int.eq_of_mul_eq_mul_left (show l ≠ 0 by have := hl.two; omega) (by grind)
  rcases hl.mul (a := a') ⟨_, this⟩ with q | q
  · exact absurd q na
  · exact hl.cu q
theorem AB.nhS {a b l : Int} (h : AB a b) (hl : Pri l) (h3 : l ≠ 3 ∨ ((a - b) % 9 ≠ 0 ∧ (a + b) % 9 ≠ 0)) : NH l (fS a b) := by
  intro x y e1 e2 e3
  rw [at_S] at e1
  have q1 : l ∣ a * x * x * x + b * y * y * y := Int.dvd_trans (Int.dvd_mul_right _ _) e1
  by_cases ha : l ∣ a
  · have : l ∣ b * (y * y * y) := by
      have := Int.dvd_sub q1 (Int.dvd_trans ha (Int.dvd_mul_right a (x * x * x)))
      rwa [show a * x * x * x + b * y * y * y - a * (x * x * x) = b * (y * y * y) by grind] at this
    exact h.nh1 hl ha e1 this
  by_cases hb : l ∣ b
  · have : l ∣ a * (x * x * x) := by
      have := Int.dvd_sub q1 (Int.dvd_trans hb (Int.dvd_mul_right b (y * y * y)))
      rwa [show a * x * x * x + b * y * y * y - b * (y * y * y) = a * (x * x * x) by grind] at this
    exact (h.swap.nh1 hl hb (by rw [Int.add_comm]; exact e1) this).symm
  by_cases h3' : l = 3
  · subst h3'
    rcases h3 with q | ⟨n1, n2⟩
    · exact absurd rfl q
    have e1 : (9 : Int) ∣ a * x * x * x + b * y * y * y := e1
    have c : ∀ z : Int, (z % 3 = 0 ∧ (z * z * z) % 9 = 0) ∨ (z % 3 = 1 ∧ (z * z * z) % 9 = 1) ∨ (z % 3 = 2 ∧ (z * z * z) % 9 = 8) := by
      intro z
      have hz : z = 3 * (z / 3) + z % 3 := by omega
      generalize z / 3 = q at hz
      rcases (by omega : z % 3 = 0 ∨ z % 3 = 1 ∨ z % 3 = 2) with r | r | r <;> rw [r] at hz <;> subst hz
      · left; refine ⟨by omega, ?_⟩
        rw [show (3 * q + 0) * (3 * q + 0) * (3 * q + 0) = 9 * (3 * q * q * q) by grind]; omega
      · right; left; refine ⟨by omega, ?_⟩
        rw [show (3 * q + 1) * (3 * q + 1) * (3 * q + 1) = 9 * (3 * q * q * q + 3 * q * q + q) + 1 by grind]; omega
      · right; right; refine ⟨by omega, ?_⟩
        rw [show (3 * q + 2) * (3 * q + 2) * (3 * q + 2) = 9 * (3 * q * q * q + 6 * q * q + 4 * q) + 8 by grind]; omega
    have key : (a * ((x * x * x) % 9) + b * ((y * y * y) % 9)) % 9 = 0 := by
      have hx : x * x * x = 9 * ((x * x * x) / 9) + (x * x * x) % 9 := by omega
      have hy : y * y * y = 9 * ((y * y * y) / 9) + (y * y * y) % 9 := by omega
      obtain ⟨k, hk⟩ := e1
      generalize (x * x * x) / 9 = u at *
      generalize (x * x * x) % 9 = v at *
      generalize (y * y * y) / 9 = u' at *
      generalize (y * y * y) % 9 = v' at *
      have : a * v + b * v' = 9 * (k - a * u - b * u') := by grind
      omega
    have da : a % 3 ≠ 0 := fun k => ha (Int.dvd_of_emod_eq_zero k)
    have db : b % 3 ≠ 0 := fun k => hb (Int.dvd_of_emod_eq_zero k)
    rcases c x with ⟨r, s⟩ | ⟨r, s⟩ | ⟨r, s⟩ <;> rcases c y with ⟨r', s'⟩ | ⟨r', s'⟩ | ⟨r', s'⟩ <;> rw [s, s'] at key
    · exact ⟨Int.dvd_of_emod_eq_zero r, Int.dvd_of_emod_eq_zero r'⟩
    all_goals omega
  · have n3 : ¬ l ∣ 3 := fun k => h3' (hl.eq pri3 k)
    have gx : l ∣ 3 * (a * (x * x)) := by
      rwa [show (fS a b).dx x y = 3 * (a * (x * x)) by unfold Fo.dx fS; dsimp only; grind] at e2
    have gy : l ∣ 3 * (b * (y * y)) := by
      rwa [show (fS a b).dy x y = 3 * (b * (y * y)) by unfold Fo.dy fS; dsimp only; grind] at e3
    constructor
    · rcases hl.mul gx with q | q
      · exact absurd q n3
      · rcases hl.mul q with q | q
        · exact absurd q ha
        · exact hl.sq q
    · rcases hl.mul gy with q | q
      · exact absurd q n3
      · rcases hl.mul q with q | q
        · exact absurd q hb
        · exact hl.sq q
/-- 3 goes into neither of a, b where 9 goes into a x x x + b -/
theorem AB.n3 {a b x e : Int} (h : AB a b) (hx : x = 1 ∨ x = 2) (he : a * x * x * x + b = 9 * e) : a % 3 ≠ 0 ∧ b % 3 ≠ 0 := by
  have k : a % 3 = 0 ↔ b % 3 = 0 := by
    rcases hx with rfl | rfl <;> omega
  have na : a % 3 ≠ 0 := fun c => h.co 3 pri3 (Int.dvd_of_emod_eq_zero c) (Int.dvd_of_emod_eq_zero (k.mp c))
  exact ⟨na, fun c => na (k.mpr c)⟩
theorem AB.nhU {a b x e l : Int} (h : AB a b) (hx : x = 1 ∨ x = 2) (he : a * x * x * x + b = 9 * e) (hl : Pri l) : NH l (fU a x e) := by
  intro X Y e1 e2 e3
  by_cases h3 : l = 3
  · subst h3
    obtain ⟨na, nb⟩ := h.n3 hx he
    have na' : ¬ (3 : Int) ∣ a := fun k => na (Int.emod_eq_zero_of_dvd k)
    have nx : ¬ (3 : Int) ∣ x := by rcases hx with rfl | rfl <;> decide
    have hY : (3 : Int) ∣ Y := by
      have : (3 : Int) ∣ a * (x * x * (Y * Y)) := by
        have := Int.dvd_sub e2 (Int.dvd_mul_right 3 (3 * a * X * X + 2 * a * x * X * Y))
        rwa [show (fU a x e).dx X Y - 3 * (3 * a * X * X + 2 * a * x * X * Y) = a * (x * x * (Y * Y)) by unfold Fo.dx fU; dsimp only; grind] at this
      rcases pri3.mul this with q | q
      · exact absurd q na'
      · rcases pri3.mul q with q | q
        · exact absurd (pri3.sq q) nx
        · exact pri3.sq q
    refine ⟨?_, hY⟩
    obtain ⟨Y', rfl⟩ := hY
    obtain ⟨k, hk⟩ := e1
    have : a * (X * X * X) = 3 * (k - (a * x * X * X * Y' + a * x * x * X * Y' * Y' + 3 * e * Y' * Y' * Y')) := by
      unfold Fo.at fU fAt at hk
      dsimp only at hk
      grind
    rcases pri3.mul (a := a) ⟨_, this⟩ with q | q
    · exact absurd q na'
    · exact pri3.cu q
  · have key := h.nhS hl (.inl h3) (3 * X + x * Y) Y
    have q1 : l * l ∣ (fS a b).at (3 * X + x * Y) Y := by rw [← at_U he]; exact dm e1 9
    have q2 : l ∣ (fS a b).dx (3 * X + x * Y) Y := by
      rw [show (fS a b).dx (3 * X + x * Y) Y = 3 * (fU a x e).dx X Y by unfold Fo.dx fS fU; dsimp only; grind]; exact dm e2 3
    have q3 : l ∣ (fS a b).dy (3 * X + x * Y) Y := by
      have : (fS a b).dy (3 * X + x * Y) Y = 9 * (fU a x e).dy X Y - 3 * x * (fU a x e).dx X Y := by
        have : b = 9 * e - a * x * x * x := by omega
        subst this
        unfold Fo.dx Fo.dy fS fU; dsimp only; grind
      rw [this]
      exact Int.dvd_sub (dm e3 9) (dm e2 _)
    obtain ⟨r1, r2⟩ := key q1 q2 q3
    refine ⟨?_, r2⟩
    have r3 : l ∣ 3 * X := by
      have := Int.dvd_sub r1 (dm r2 x)
      rwa [Int.add_sub_cancel] at this
    rcases hl.mul r3 with q | q
    · exact absurd (hl.eq pri3 q) h3
    · exact q
theorem AB.ctS {a b l : Int} (h : AB a b) (hl : Pri l) : CT l (fS a b) := fun ⟨k1, _, _, k4⟩ => h.co l hl k1 k4
theorem AB.ctU {a b x e l : Int} (h : AB a b) (hx : x = 1 ∨ x = 2) (he : a * x * x * x + b = 9 * e) (hl : Pri l) : CT l (fU a x e) := by
  rintro ⟨k1, k2, k3, k4⟩
  have k1 : l ∣ 3 * a := k1
  have k3 : l ∣ a * x * x := k3
  have k4 : l ∣ e := k4
  by_cases h3 : l = 3
  · subst h3
    obtain ⟨na, nb⟩ := h.n3 hx he
    have k3 := Int.emod_eq_zero_of_dvd k3
    rcases hx with rfl | rfl <;> omega
  · have ka : l ∣ a := by
      rcases hl.mul k1 with q | q
      · exact absurd (hl.eq pri3 q) h3
      · exact q
    have kb : l ∣ b := by
      have := Int.dvd_sub (dm k4 9) (dm ka (x * x * x))
      rwa [show 9 * e - x * x * x * a = b by grind] at this
    exact h.co l hl ka kb
/-- no heavy place where NH holds -/
theorem NH.heavy {l : Int} {f : Fo} (h : NH l f) (hl : 2 ≤ l) {z : Int × Int} (hz : z ∈ plL l.toNat) : heavyB f l z = false := by
  refine Bool.eq_false_iff.mpr fun c => ?_
  unfold heavyB at c
  rw [Bool.and_eq_true, decide_eq_true_eq, decide_eq_true_eq] at c
  obtain ⟨c1, c2⟩ := c
  have c1 := Int.dvd_of_emod_eq_zero c1
  have c2 := Int.dvd_of_emod_eq_zero c2
  rcases plL_mem (by omega) hz with rfl | ⟨h1, h2, h3⟩
  · rw [if_pos rfl] at c2
    have a1 : l * l ∣ f.a := by
      rwa [show fAt f.a f.b f.c f.d 1 0 = f.a by unfold fAt; grind] at c1
    have a2 : l ∣ f.a := Int.dvd_trans (Int.dvd_mul_right _ _) a1
    have := (h 1 0 (by rw [show f.at 1 0 = f.a by unfold Fo.at fAt; grind]; exact a1) (by rw [show f.dx 1 0 = 3 * f.a by unfold Fo.dx; grind]; exact dm a2 3) (by rw [show f.dy 1 0 = f.b by unfold Fo.dy; grind]; exact c2)).1
    have := Int.le_of_dvd (by decide) this
    omega
  · obtain ⟨x, y⟩ := z
    simp only at h1 h2 h3
    subst h3
    rw [if_neg (by simp)] at c2
    have a1 : l ∣ fAt f.a f.b f.c f.d x 1 := Int.dvd_trans (Int.dvd_mul_right _ _) c1
    have a2 : l ∣ f.dx x 1 := by rwa [show f.dx x 1 = f.slope x by unfold Fo.dx Fo.slope; grind]
    have a3 : l ∣ f.dy x 1 := by
      have := Int.dvd_sub (dm a1 3) (dm a2 x)
      rwa [show 3 * fAt f.a f.b f.c f.d x 1 - x * f.dx x 1 = f.dy x 1 by unfold Fo.dx Fo.dy fAt; grind] at this
    have := (h x 1 c1 a2 a3).2
    have := Int.le_of_dvd (by decide) this
    omega
theorem NH.filter {l : Int} {f : Fo} (h : NH l f) (hl : 2 ≤ l) : (plL l.toNat).filter (heavyB f l) = [] :=
  List.filter_eq_nil_iff.mpr fun z hz => by rw [h.heavy hl hz]; simp
theorem NH.find {l : Int} {f : Fo} (h : NH l f) (hl : 2 ≤ l) : (plL l.toNat).find? (heavyB f l) = none :=
  List.find?_eq_none.mpr fun z hz => by rw [h.heavy hl hz]; simp
theorem CT.div {l : Int} {f : Fo} (h : CT l f) : divB f l = false := by
  refine Bool.eq_false_iff.mpr fun c => ?_
  unfold divB at c
  simp only [Bool.and_eq_true, decide_eq_true_eq] at c
  obtain ⟨c1, c2, c3, c4⟩ := c
  exact h ⟨Int.dvd_of_emod_eq_zero c1, Int.dvd_of_emod_eq_zero c2, Int.dvd_of_emod_eq_zero c3, Int.dvd_of_emod_eq_zero c4⟩
end Fr
namespace Fr
/-! ### sizes -/
structure MB (e : Nat) (m : Ma) : Prop where
  p : m.p.natAbs < 2 ^ e
  q : m.q.natAbs < 2 ^ e
  r : m.r.natAbs < 2 ^ e
  s : m.s.natAbs < 2 ^ e
theorem MB.mono {e k : Nat} {m : Ma} (h : MB e m) (l : e ≤ k) : MB k m := by
  have := Nat.pow_le_pow_right (show 0 < 2 by decide) l
  exact ⟨Nat.lt_of_lt_of_le h.p this, Nat.lt_of_lt_of_le h.q this, Nat.lt_of_lt_of_le h.r this, Nat.lt_of_lt_of_le h.s this⟩
theorem MB.sm {m : Ma} (h : MB 201 m) : SmM m := ⟨h.p, h.q, h.r, h.s⟩
theorem mb_lin {e : Nat} {s x y : Int} (hs : s.natAbs < 2 ^ 50) (hx : x.natAbs < 2 ^ e) (hy : y.natAbs < 2 ^ e) : (s * x + 1 * y).natAbs < 2 ^ (e + 51) := by
  have h1 : (s * x).natAbs = s.natAbs * x.natAbs := Int.natAbs_mul _ _
  have h2 : s.natAbs * x.natAbs ≤ 2 ^ 50 * 2 ^ e := Nat.mul_le_mul (Nat.le_of_lt hs) (Nat.le_of_lt hx)
  have h3 : (2 : Nat) ^ (e + 51) = 2 ^ 51 * 2 ^ e := by rw [Nat.pow_add, Nat.mul_comm]
  have h4 : (2 : Nat) ^ 51 * 2 ^ e = 2 ^ 50 * 2 ^ e + 2 ^ 50 * 2 ^ e := by rw [← Nat.add_mul]
  have h5 : 1 * 2 ^ e ≤ 2 ^ 50 * 2 ^ e := Nat.mul_le_mul_right _ (by decide)
  omega
theorem MB.sh {e : Nat} {m : Ma} {s : Int} (h : MB e m) (hs : s.natAbs < 2 ^ 50) : MB (e + 51) (m.join ⟨1, 0, s, 1⟩) := by
  have h' := h.mono (Nat.le_add_right e 51)
  refine ⟨?_, ?_, mb_lin hs h.p h.r, mb_lin hs h.q h.s⟩
  · show (1 * m.p + 0 * m.r).natAbs < _
    rw [Int.one_mul, Int.zero_mul, Int.add_zero]; exact h'.p
  · show (1 * m.q + 0 * m.s).natAbs < _
    rw [Int.one_mul, Int.zero_mul, Int.add_zero]; exact h'.q
theorem MB.ex {e : Nat} {m : Ma} (h : MB e m) : MB e (m.join ⟨0, 1, -1, 0⟩) := by
  obtain ⟨h1, h2, h3, h4⟩ := h
  refine ⟨?_, ?_, ?_, ?_⟩
  · show (0 * m.p + 1 * m.r).natAbs < _
    rwa [show 0 * m.p + 1 * m.r = m.r by omega]
  · show (0 * m.q + 1 * m.s).natAbs < _
    rwa [show 0 * m.q + 1 * m.s = m.s by omega]
  · show (-1 * m.p + 0 * m.r).natAbs < _
    rwa [show (-1 * m.p + 0 * m.r).natAbs = m.p.natAbs by omega]
  · show (-1 * m.q + 0 * m.s).natAbs < _
    rwa [show (-1 * m.q + 0 * m.s).natAbs = m.q.natAbs by omega]
theorem MB.op {e : Nat} {m : Ma} (h : MB e m) : MB e (m.join ⟨-1, 0, 0, -1⟩) := by
  obtain ⟨h1, h2, h3, h4⟩ := h
  refine ⟨?_, ?_, ?_, ?_⟩
  · show (-1 * m.p + 0 * m.r).natAbs < _
    rwa [show (-1 * m.p + 0 * m.r).natAbs = m.p.natAbs by omega]
  · show (-1 * m.q + 0 * m.s).natAbs < _
    rwa [show (-1 * m.q + 0 * m.s).natAbs = m.q.natAbs by omega]
  · show (0 * m.p + -1 * m.r).natAbs < _
    rwa [show (0 * m.p + -1 * m.r).natAbs = m.r.natAbs by omega]
  · show (0 * m.q + -1 * m.s).natAbs < _
    rwa [show (0 * m.q + -1 * m.s).natAbs = m.s.natAbs by omega]
theorem Lt100.exF {f : Fo} (h : Lt100 f) : Lt100 (fEx f) := ⟨h.d, by show (-f.c).natAbs < _; rw [Int.natAbs_neg]; exact h.c, h.b, by show (-f.a).natAbs < _; rw [Int.natAbs_neg]; exact h.a⟩
theorem Lt100.opF {f : Fo} (h : Lt100 f) : Lt100 (fOp f) := ⟨by show (-f.a).natAbs < _; rw [Int.natAbs_neg]; exact h.a, by show (-f.b).natAbs < _; rw [Int.natAbs_neg]; exact h.b, by show (-f.c).natAbs < _; rw [Int.natAbs_neg]; exact h.c, by show (-f.d).natAbs < _; rw [Int.natAbs_neg]; exact h.d⟩
theorem Lt100.miF {f : Fo} (h : Lt100 f) : Lt100 (fMi f) := ⟨h.a, by show (-f.b).natAbs < _; rw [Int.natAbs_neg]; exact h.b, h.c, by show (-f.d).natAbs < _; rw [Int.natAbs_neg]; exact h.d⟩
theorem MB.shw {e : Nat} {w : Wa} {s : Int} (h : MB e w.m) (hs : s.natAbs < 2 ^ 50) : MB (e + 51) (w.sh s).m := by
  unfold Wa.sh
  split
  · exact h.mono (Nat.le_add_right _ _)
  · exact h.sh hs
theorem MB.oppw {e : Nat} {w : Wa} (h : MB e w.m) : MB e w.opp.m := by
  unfold Wa.opp
  split
  · exact h.op
  · exact h
/-! ### the shift -/
theorem np_sh (f : Fo) (s x : Int) : (fSh f s).np x = f.np (x + s) := by
  unfold Fo.np
  have : fAt (fSh f s).a (fSh f s).b (fSh f s).c (fSh f s).d ((fSh f s).a - (fSh f s).b - 2 * x * (fSh f s).a) (fSh f s).a = fAt f.a f.b f.c f.d (f.a - f.b - 2 * (x + s) * f.a) f.a := by
    unfold fSh fAt; dsimp only; grind
  rw [this]
theorem np_zero (f : Fo) : fAt f.a f.b f.c f.d (f.a - f.b - 2 * 0 * f.a) f.a = f.a * f.a * ((f.a - f.b) * (f.a - f.b) + f.a * f.c - f.b * f.c + f.a * f.d) := by
  unfold fAt; grind
theorem np_one (f : Fo) : fAt f.a f.b f.c f.d (f.a - f.b - 2 * 1 * f.a) f.a = f.a * f.a * (f.a * f.d - f.b * f.c - (f.a + f.b) * (f.a + f.b) - f.a * f.c) := by
  unfold fAt; grind
theorem pos_of_mul {x y : Int} (hx : 0 < x) (h : 0 < x * y) : 0 < y := Int.pos_of_mul_pos_right h hx |> fun h => h
theorem betw_of {f : Fo} (ha : 0 < f.a) (h0 : f.np 0 = true) (h1 : f.np 1 = false) (nr : NR f) : f.betw = true := by
  have haa : 0 < f.a * f.a := Int.mul_pos ha ha
  unfold Fo.np at h0 h1
  have h0 := of_decide_eq_true h0
  have h1 := of_decide_eq_false h1
  have n1 : fAt f.a f.b f.c f.d (f.a - f.b - 2 * 1 * f.a) f.a ≠ 0 := fun k => by
    have := (nr _ _ k).2
    omega
  rw [np_zero] at h0
  rw [np_one] at h1 n1
  have g0 : 0 < (f.a - f.b) * (f.a - f.b) + f.a * f.c - f.b * f.c + f.a * f.d := pos_of_mul haa h0
  have g1 : f.a * f.d - f.b * f.c - (f.a + f.b) * (f.a + f.b) - f.a * f.c < 0 := by
    rcases Int.lt_trichotomy (f.a * f.d - f.b * f.c - (f.a + f.b) * (f.a + f.b) - f.a * f.c) 0 with c | c | c
    · exact c
    · rw [c, Int.mul_zero] at n1; exact absurd rfl n1
    · exact absurd (Int.mul_pos haa c) h1
  unfold Fo.betw
  rw [Bool.and_eq_true, decide_eq_true_eq, decide_eq_true_eq, Int.neg_mul]
  constructor <;> omega
theorem np_of_betw {f : Fo} (ha : 0 < f.a) (h : f.betw = true) : f.np 0 = true ∧ f.np 1 = false := by
  have haa : 0 < f.a * f.a := Int.mul_pos ha ha
  unfold Fo.betw at h
  rw [Bool.and_eq_true, decide_eq_true_eq, decide_eq_true_eq, Int.neg_mul] at h
  unfold Fo.np
  rw [np_zero, np_one]
  constructor
  · exact decide_eq_true (Int.mul_pos haa (by omega))
  · refine decide_eq_false fun k => ?_
    have := pos_of_mul haa k
    omega
theorem Thr.betw_sh {f : Fo} {s : Int} (t : Thr f s) (ha : 0 < f.a) (nr : NR f) : (fSh f s).betw = true := by
  refine betw_of ha ?_ ?_ ((kp_sh f s).nr nr)
  · rw [np_sh, t.at_]; exact decide_eq_true (by omega)
  · rw [np_sh, t.at_]; exact decide_eq_false (by omega)
theorem Thr.betw_no {f : Fo} {s : Int} (t : Thr f s) (ha : 0 < f.a) (hs : s ≠ 0) : f.betw = false := by
  refine Bool.eq_false_iff.mpr fun c => ?_
  obtain ⟨h0, h1⟩ := np_of_betw ha c
  rw [t.at_] at h0 h1
  have := of_decide_eq_true h0
  have := of_decide_eq_false h1
  omega
theorem thr_of {f : Fo} {s : Int} (mono : ∀ x y, x ≤ y → f.np y = true → f.np x = true) (h1 : f.np s = true) (h2 : f.np (s + 1) = false) (hs : s.natAbs < 2 ^ 50) : Thr f s := by
  refine ⟨fun x => ?_, Nat.lt_of_lt_of_le hs (by decide)⟩
  by_cases c : x ≤ s
  · rw [decide_eq_true c]; exact mono x s c h1
  · rw [decide_eq_false c]
    refine Bool.eq_false_iff.mpr fun k => ?_
    rw [mono (s + 1) x (by omega) k] at h2
    cases h2
/-! ### the loop -/
/-- from f, k shifts lead to g, where the loop ends -/
structure Rn (k : Nat) (f g : Fo) : Prop where
  lt : Lt100 f
  run : ∀ w : Wa, w.f = f → MB (201 - 51 * k) w.m → ∃ n y, Runs n w y ∧ y.f = g
theorem rn_last {f : Fo} {s : Int} (ha : 0 < f.a) (nr : NR f) (l1 : Lt100 f) (t : Thr f s) (hs : s.natAbs < 2 ^ 50) (l2 : Lt100 (fSh f s)) (sm : (fSh f s).small = true) : Rn 1 f (fSh f s) := by
  refine ⟨l1, fun w hw hm => ?_⟩
  subst hw
  have b1 := t.betw_sh ha nr
  have e := sh_f w s
  have m1 : MB 201 w.m := hm.mono (by decide)
  have m2 : MB 201 (w.sh s).m := (hm.shw hs).mono (by decide)
  have w2 : SmW (w.sh s) := ⟨by rw [e]; exact l2, m2.sm⟩
  have fin : ((w.sh s).f.small && (w.sh s).f.betw) = true := by rw [e, sm, b1]; rfl
  by_cases h0 : s = 0
  · subst h0
    have : w.sh 0 = w := if_pos rfl
    rw [this] at fin w2 e
    exact ⟨0, w, .done fin w2, e⟩
  · have ex : (w.sh s).ex = w.sh s := if_pos (by rw [e]; exact sm)
    refine ⟨1, w.sh s, .turn ?_ ⟨l1, m1.sm⟩ t w2 ⟨?_, m2.ex.sm⟩ (by rw [ex]; exact .done fin w2), e⟩
    · rw [t.betw_no ha h0, Bool.and_false]
    · show Lt100 ((w.sh s).f.led _)
      rw [led_ex, e]
      exact l2.exF
theorem rn_more {f g : Fo} {s : Int} {k : Nat} (ha : 0 < f.a) (l1 : Lt100 f) (t : Thr f s) (hs : s.natAbs < 2 ^ 50) (l2 : Lt100 (fSh f s)) (sm : (fSh f s).small = false) (hk : k ≤ 2)
    (r : Rn k (if (fSh f s).d < 0 then fOp (fEx (fSh f s)) else fEx (fSh f s)) g) : Rn (k + 1) f g := by
  refine ⟨l1, fun w hw hm => ?_⟩
  subst hw
  have e := sh_f w s
  have m1 : MB 201 w.m := hm.mono (by omega)
  have m2' : MB (201 - 51 * k) (w.sh s).m := (hm.shw hs).mono (by omega)
  have m2 : MB 201 (w.sh s).m := m2'.mono (by omega)
  have w2 : SmW (w.sh s) := ⟨by rw [e]; exact l2, m2.sm⟩
  have fe : ((w.sh s).st ⟨0, 1, -1, 0⟩).f = fEx (fSh w.f s) := by
    show (w.sh s).f.led _ = _
    rw [led_ex, e]
  have ex : (w.sh s).ex = ((w.sh s).st ⟨0, 1, -1, 0⟩).opp := if_neg (by rw [e, sm]; decide)
  have ef : (w.sh s).ex.f = if (fSh w.f s).d < 0 then fOp (fEx (fSh w.f s)) else fEx (fSh w.f s) := by
    rw [ex, opp_f, fe]
    rfl
  have em : MB (201 - 51 * k) (w.sh s).ex.m := by
    rw [ex]
    exact MB.oppw (w := (w.sh s).st ⟨0, 1, -1, 0⟩) m2'.ex
  obtain ⟨n, y, r1, r2⟩ := r.run _ ef em
  refine ⟨n + 1, y, .turn ?_ ⟨l1, m1.sm⟩ t w2 ⟨by rw [fe]; exact l2.exF, m2.ex.sm⟩ r1, r2⟩
  by_cases h0 : s = 0
  · subst h0
    rw [fSh_zero] at sm
    rw [sm, Bool.false_and]
  · rw [t.betw_no ha h0, Bool.and_false]
theorem Rn.up {k j : Nat} {f g : Fo} (h : Rn k f g) (l : k ≤ j) : Rn j f g := ⟨h.lt, fun w e m => h.run w e (m.mono (by omega))⟩
/-! ### the least form -/
def fFi (g : Fo) : Fo := if g.b < 0 ∨ (g.b = 0 ∧ g.d < 0) then fMi g else g
theorem small_mi (f : Fo) : (fMi f).small = f.small := by
  unfold Fo.small fMi; dsimp only
  rw [show -f.d * -f.d - f.a * f.a + f.a * f.c - -f.b * -f.d = f.d * f.d - f.a * f.a + f.a * f.c - f.b * f.d by grind]
theorem betw_mi {f : Fo} (h : f.betw = true) : (fMi f).betw = true := by
  unfold Fo.betw fMi at *; dsimp only
  rw [Bool.and_eq_true, decide_eq_true_eq, decide_eq_true_eq] at *
  constructor <;> grind
structure Lt60 (f : Fo) : Prop where
  a : f.a.natAbs < 2 ^ 60
  b : f.b.natAbs < 2 ^ 60
  c : f.c.natAbs < 2 ^ 60
  d : f.d.natAbs < 2 ^ 60
theorem Lt60.l100 {f : Fo} (h : Lt60 f) : Lt100 f := ⟨Nat.lt_of_lt_of_le h.a (by decide), Nat.lt_of_lt_of_le h.b (by decide), Nat.lt_of_lt_of_le h.c (by decide), Nat.lt_of_lt_of_le h.d (by decide)⟩
theorem Lt60.in20 {f : Fo} (h : Lt60 f) : In20 f := ⟨Nat.lt_of_lt_of_le h.a (by decide), Nat.lt_of_lt_of_le h.b (by decide), Nat.lt_of_lt_of_le h.c (by decide), Nat.lt_of_lt_of_le h.d (by decide)⟩
theorem Lt60.sm {f : Fo} (h : Lt60 f) : SmF f := ⟨Nat.lt_of_lt_of_le h.a (by decide), Nat.lt_of_lt_of_le h.b (by decide), Nat.lt_of_lt_of_le h.c (by decide), Nat.lt_of_lt_of_le h.d (by decide)⟩
theorem Lt60.mi {f : Fo} (h : Lt60 f) : Lt60 (fMi f) := ⟨h.a, by show (-f.b).natAbs < _; rw [Int.natAbs_neg]; exact h.b, h.c, by show (-f.d).natAbs < _; rw [Int.natAbs_neg]; exact h.d⟩
theorem Lt60.fi {f : Fo} (h : Lt60 f) : Lt60 (fFi f) := by
  unfold fFi
  split
  · exact h.mi
  · exact h
theorem mul_lt_pow {x y : Int} {m n : Nat} (hx : x.natAbs < 2 ^ m) (hy : y.natAbs < 2 ^ n) : (x * y).natAbs < 2 ^ (m + n) := by
  rw [Int.natAbs_mul, Nat.pow_add]
  rcases Nat.eq_zero_or_pos y.natAbs with h | h
  · rw [h, Nat.mul_zero]
    exact Nat.mul_pos (Nat.pow_pos (by decide)) (Nat.pow_pos (by decide))
  · exact Nat.mul_lt_mul_of_lt_of_le hx (Nat.le_of_lt hy) (Nat.pow_pos (by decide))
theorem plC_of {f : Fo} (h : Lt60 f) (ha : 0 < f.a) (hp : f.b * f.b - 3 * (f.a * f.c) ≤ 0) (nr : NR f) : PlC f [] := by
  refine .no (by omega) hp (fun x k => ?_) (Nat.lt_of_lt_of_le h.b (by decide)) (Nat.lt_of_lt_of_le (mul_lt_pow h.a h.c) (by decide)) (Nat.lt_of_lt_of_le (mul_lt_pow (mul_lt_pow h.a h.a) h.d) (by decide)) h.sm
  have := nr x f.a (by
    rw [show f.at x f.a = f.a * mon f.b (f.a * f.c) (f.a * f.a * f.d) x by unfold Fo.at fAt mon; grind, k, Int.mul_zero])
  omega
theorem mb_id {k : Nat} (h : 1 ≤ k) : MB k idM := (MB.mono (e := 1) ⟨by decide, by decide, by decide, by decide⟩ h)
theorem lead_of {f g : Fo} (r : Rn 3 f g) (ha : 0 < f.a) (hp : PlC f []) : ∃ m, LeadR f (fFi g) m := by
  have eo : Wa.opp ⟨f, idM⟩ = ⟨f, idM⟩ := if_neg (by show ¬ f.a < 0; omega)
  obtain ⟨n, y, h1, h2⟩ := r.run ⟨f, idM⟩ rfl (mb_id (by decide))
  refine ⟨y.fin.m, ?_⟩
  have e : fFi g = y.fin.f := by rw [fin_f, h2]; rfl
  rw [e]
  exact .free hp ⟨r.lt, (mb_id (by decide)).sm⟩ (by rw [eo]; exact h1)
theorem least_self {f g : Fo} (r : Rn 3 f g) (ga : 0 < g.a) (hp : g.b * g.b - 3 * (g.a * g.c) ≤ 0) (l : Lt60 g) (nr : NR (fFi g)) : ∃ m, LeadR (fFi g) (fFi g) m := by
  obtain ⟨n, y, h1, rfl⟩ := r.run ⟨f, idM⟩ rfl (mb_id (by decide))
  have sb := h1.smW.2.2
  rw [Bool.and_eq_true] at sb
  have fa : (fFi y.f).a = y.f.a := by unfold fFi; split <;> rfl
  have fb : (fFi y.f).small = true ∧ (fFi y.f).betw = true := by
    unfold fFi
    split
    · exact ⟨by rw [small_mi]; exact sb.1, betw_mi sb.2⟩
    · exact sb
  have fp : (fFi y.f).b * (fFi y.f).b - 3 * ((fFi y.f).a * (fFi y.f).c) ≤ 0 := by
    unfold fFi
    split
    · show -y.f.b * -y.f.b - _ ≤ 0
      rw [Int.neg_mul_neg]
      exact hp
    · exact hp
  have ff : fFi (fFi y.f) = fFi y.f := by
    by_cases c : y.f.b < 0 ∨ (y.f.b = 0 ∧ y.f.d < 0)
    · have e : fFi y.f = fMi y.f := if_pos c
      rw [e]
      exact if_neg (by show ¬ (-y.f.b < 0 ∨ (-y.f.b = 0 ∧ -y.f.d < 0)); omega)
    · have e : fFi y.f = y.f := if_neg c
      rw [e, e]
  have pc := plC_of l.fi (by omega) fp nr
  have sw : SmW ⟨fFi y.f, idM⟩ := ⟨l.fi.l100, (mb_id (by decide)).sm⟩
  have eo : Wa.opp ⟨fFi y.f, idM⟩ = ⟨fFi y.f, idM⟩ := if_neg (by show ¬ (fFi y.f).a < 0; omega)
  have rr : Runs 0 (Wa.opp ⟨fFi y.f, idM⟩) ⟨fFi y.f, idM⟩ := by
    rw [eo]
    exact .done (by rw [Bool.and_eq_true]; exact fb) sw
  have key := LeadR.free pc sw rr
  have e2 : (Wa.fin ⟨fFi y.f, idM⟩).f = fFi y.f := by rw [fin_f]; exact ff
  rw [e2] at key
  exact ⟨_, key⟩
end Fr
namespace Fr
/-! ### cubes -/
theorem sq_nn (x : Int) : 0 ≤ x * x := by
  rcases Int.le_total 0 x with h | h
  · exact Int.mul_nonneg h h
  · exact Int.mul_nonneg_of_nonpos_of_nonpos h h
theorem cu_mono {x y : Int} (h : x ≤ y) : x * x * x ≤ y * y * y := by
  have h1 : 0 ≤ y - x := by omega
  have h2 : 0 ≤ x * x + x * y + y * y := by
    have := sq_nn (x + y)
    have := sq_nn x
    have := sq_nn y
    grind
  have := Int.mul_nonneg h1 h2
  grind
theorem cu_lt {x y : Int} (h : x * x * x < y * y * y) : x < y := by
  rcases Int.lt_or_le x y with c | c
  · exact c
  · have := cu_mono c
    omega
theorem mul_le {a x y : Int} (ha : 0 ≤ a) (h : x ≤ y) : a * x ≤ a * y := Int.mul_le_mul_of_nonneg_left h ha
theorem mul_lt {a x y : Int} (ha : 0 < a) (h : x < y) : a * x < a * y := Int.mul_lt_mul_of_pos_left h ha
theorem lt_of_mul {a x y : Int} (ha : 0 < a) (h : a * x < a * y) : x < y := Int.lt_of_mul_lt_mul_left h (Int.le_of_lt ha)
theorem thr_ex (P : Int → Prop) : ∀ (k : Nat) (lo hi : Int), (hi - lo).toNat ≤ k → P lo → ¬ P hi → lo < hi → ∃ s, lo ≤ s ∧ s < hi ∧ P s ∧ ¬ P (s + 1)
  | 0, lo, hi, hk, _, _, _ => by omega
  | k + 1, lo, hi, hk, h1, h2, _ => by
    by_cases c : P (lo + 1)
    · by_cases e : lo + 1 = hi
      · exact absurd (e ▸ c) h2
      · obtain ⟨s, g1, g2, g3⟩ := thr_ex P k (lo + 1) hi (by omega) c h2 (by omega)
        exact ⟨s, by omega, g2, g3⟩
    · exact ⟨lo, Int.le_refl _, by omega, h1, c⟩
/-- np of a form that is a third power and a third power -/
theorem np_two {f : Fo} {k a b p1 p2 q1 q2 : Int} (hk : 0 < k) (ha : 0 ≤ a) (hb : 0 ≤ b) (hp : 0 ≤ p1) (hq : 0 ≤ q1) (fa : 0 < f.a)
    (h : ∀ X Y, k * f.at X Y = a * ((p1 * X + p2 * Y) * (p1 * X + p2 * Y) * (p1 * X + p2 * Y)) + b * ((q1 * X + q2 * Y) * (q1 * X + q2 * Y) * (q1 * X + q2 * Y))) :
    ∀ x y, x ≤ y → f.np y = true → f.np x = true := by
  intro x y hxy hy
  unfold Fo.np at *
  have hy := of_decide_eq_true hy
  refine decide_eq_true ?_
  have hm := mul_lt hk hy
  rw [Int.mul_zero] at hm
  refine lt_of_mul hk ?_
  rw [Int.mul_zero]
  have e1 := h (f.a - f.b - 2 * x * f.a) f.a
  have e2 := h (f.a - f.b - 2 * y * f.a) f.a
  unfold Fo.at at e1 e2
  rw [e2] at hm
  rw [e1]
  refine Int.lt_of_lt_of_le hm ?_
  have hX : f.a - f.b - 2 * y * f.a ≤ f.a - f.b - 2 * x * f.a := by
    have : x * f.a ≤ y * f.a := Int.mul_le_mul_of_nonneg_right hxy (Int.le_of_lt fa)
    grind
  have m1 := mul_le hp hX
  have m2 := mul_le hq hX
  exact Int.add_le_add (mul_le ha (cu_mono (by omega))) (mul_le hb (cu_mono (by omega)))
/-! ### (e, 0, 0, d) -/
theorem np_S {e d : Int} (he : 0 < e) (s : Int) : (fS e d).np s = decide (0 < e * ((1 - 2 * s) * (1 - 2 * s) * (1 - 2 * s)) + d) := by
  unfold Fo.np fS
  have : fAt e 0 0 d (e - 0 - 2 * s * e) e = e * e * e * (e * ((1 - 2 * s) * (1 - 2 * s) * (1 - 2 * s)) + d) := by unfold fAt; grind
  dsimp only
  rw [this]
  have h3 : 0 < e * e * e := Int.mul_pos (Int.mul_pos he he) he
  by_cases c : 0 < e * ((1 - 2 * s) * (1 - 2 * s) * (1 - 2 * s)) + d
  · rw [decide_eq_true c, decide_eq_true (Int.mul_pos h3 c)]
  · rw [decide_eq_false c, decide_eq_false fun k => c (pos_of_mul h3 k)]
theorem mono_S {e d : Int} (he : 0 < e) : ∀ x y, x ≤ y → (fS e d).np y = true → (fS e d).np x = true := by
  intro x y hxy hy
  rw [np_S he] at *
  have hy := of_decide_eq_true hy
  refine decide_eq_true ?_
  have := mul_le (Int.le_of_lt he) (cu_mono (show 1 - 2 * y ≤ 1 - 2 * x by omega))
  omega
/-- the form behind the shift -/
def fN (e t d : Int) : Fo := ⟨e, 3 * e * t, 3 * e * t * t, e * t * t * t + d⟩
theorem sh_S (e d t : Int) : fSh (fS e d) t = fN e t d := by
  unfold fSh fS fN; apply fo_ext <;> dsimp only <;> grind
theorem small_N (e t d : Int) : (fN e t d).small = decide (0 < d * d + (2 * (t * t * t) - 3 * t) * (e * d) + (t * t - 1) * (t * t - 1) * (t * t - 1) * (e * e)) := by
  unfold Fo.small fN
  dsimp only
  congr 2
  grind
/-- t in the middle: e (2 t - 1) ^ 3 < c < e (2 t + 1) ^ 3 -/
structure Mid (e t c : Int) : Prop where
  e1 : 1 ≤ e
  t1 : 1 ≤ t
  cm : c ≤ 1000000000000
  lo : e * ((2 * t - 1) * (2 * t - 1) * (2 * t - 1)) < c
  hi : c < e * ((2 * t + 1) * (2 * t + 1) * (2 * t + 1))
theorem Mid.bd {e t c : Int} (h : Mid e t c) : e ≤ e * t ∧ e * t ≤ e * t * t ∧ e * t * t ≤ e * t * t * t ∧ e * t * t * t < c ∧ t ≤ e * t := by
  obtain ⟨h1, h2, h3, h4, _⟩ := h
  have a1 : e * 1 ≤ e * t := mul_le (by omega) h2
  have a2 : (e * t) * 1 ≤ (e * t) * t := mul_le (by omega) h2
  have a3 : (e * t * t) * 1 ≤ (e * t * t) * t := mul_le (by omega) h2
  have a4 : e * (t * t * t) ≤ e * ((2 * t - 1) * (2 * t - 1) * (2 * t - 1)) := mul_le (by omega) (cu_mono (by omega))
  have a5 : t * 1 ≤ t * e := mul_le (by omega) h1
  rw [show e * (t * t * t) = e * t * t * t by grind] at a4
  rw [Int.mul_comm t e] at a5
  omega
theorem Mid.small {e t c : Int} (h : Mid e t c) : 0 < c * c + (2 * (t * t * t) - 3 * t) * (e * c) + (t * t - 1) * (t * t - 1) * (t * t - 1) * (e * e) := by
  obtain ⟨h1, h2, _, h4, _⟩ := h
  by_cases h5 : t = 1
  · subst h5
    have : e < c := by omega
    have := Int.mul_pos (show 0 < c by omega) (show 0 < c - e by omega)
    grind
  · have b := Mid.bd ⟨h1, h2, by assumption, h4, by assumption⟩
    have hc : 0 < c := by omega
    have tt : 2 * t ≤ t * t := Int.mul_le_mul_of_nonneg_right (show 2 ≤ t by omega) (by omega)
    have p1 : 0 < c * c := Int.mul_pos hc hc
    have p2 : 0 ≤ (2 * (t * t * t) - 3 * t) * (e * c) := by
      refine Int.mul_nonneg ?_ (Int.mul_nonneg (by omega) (by omega))
      have : 0 ≤ t * (2 * (t * t) - 3) := Int.mul_nonneg (by omega) (by omega)
      grind
    have p3 : 0 ≤ (t * t - 1) * (t * t - 1) * (t * t - 1) * (e * e) := Int.mul_nonneg (Int.mul_nonneg (Int.mul_nonneg (by omega) (by omega)) (by omega)) (sq_nn e)
    omega
theorem nat_lt {x : Int} {n : Nat} (h1 : -(2 ^ n : Int) < x) (h2 : x < 2 ^ n) : x.natAbs < 2 ^ n := by
  have : ((2 ^ n : Nat) : Int) = 2 ^ n := by simp
  omega
theorem n60 {x : Int} (h1 : -1000000000000000 < x) (h2 : x < 1000000000000000) : x.natAbs < 2 ^ 60 := Nat.lt_of_lt_of_le (show x.natAbs < 1000000000000000 by omega) (by decide)
theorem n50 {x : Int} (h1 : -1000000000000000 < x) (h2 : x < 1000000000000000) : x.natAbs < 2 ^ 50 := Nat.lt_of_lt_of_le (show x.natAbs < 1000000000000000 by omega) (by decide)
theorem Mid.l60 {e t c : Int} (h : Mid e t c) : Lt60 (fN e t c) := by
  have b := h.bd
  obtain ⟨h1, h2, h3, h4, _⟩ := h
  unfold fN
  refine ⟨n60 ?_ ?_, n60 ?_ ?_, n60 ?_ ?_, n60 ?_ ?_⟩ <;> dsimp only <;> (try rw [Int.mul_assoc 3 e t]) <;> (try rw [Int.mul_assoc 3 (e * t) t]) <;> omega
theorem Mid.l60n {e t c : Int} (h : Mid e t c) : Lt60 (fN e (-t) (-c)) := by
  have := h.l60.mi
  have e : fMi (fN e t c) = fN e (-t) (-c) := by
    unfold fMi fN; apply fo_ext <;> dsimp only <;> grind
  rwa [← e]
theorem lt60_S {e d : Int} (h1 : 1 ≤ e) (h2 : e ≤ 1000000000000) (h3 : -1000000000000 ≤ d) (h4 : d ≤ 1000000000000) : Lt60 (fS e d) := ⟨n60 (by show _ < e; omega) (by show e < _; omega), by show (0 : Int).natAbs < _; decide, by show (0 : Int).natAbs < _; decide, n60 (by show _ < d; omega) (by show d < _; omega)⟩
theorem Mid.rn {e t c : Int} (h : Mid e t c) (nr : NR (fS e c)) : Rn 1 (fS e c) (fN e t c) := by
  have b := h.bd
  have hs := h.small
  have l := h.l60
  have he := h.e1
  have hc := h.cm
  have := h.t1
  rw [← sh_S] at l ⊢
  refine rn_last (show 0 < e by omega) nr (lt60_S he (by omega) (by omega) hc).l100 (thr_of (mono_S (by omega)) ?_ ?_ (n50 (by omega) (by omega))) (n50 (by omega) (by omega)) l.l100 ?_
  · rw [np_S (by omega)]
    have := h.lo
    refine decide_eq_true ?_
    rw [show (1 - 2 * t) * (1 - 2 * t) * (1 - 2 * t) = -((2 * t - 1) * (2 * t - 1) * (2 * t - 1)) by grind, Int.mul_neg]
    omega
  · rw [np_S (by omega)]
    have := h.hi
    refine decide_eq_false ?_
    rw [show (1 - 2 * (t + 1)) * (1 - 2 * (t + 1)) * (1 - 2 * (t + 1)) = -((2 * t + 1) * (2 * t + 1) * (2 * t + 1)) by grind, Int.mul_neg]
    omega
  · rw [sh_S, small_N]
    exact decide_eq_true hs
theorem Mid.rnn {e t c : Int} (h : Mid e t c) (nr : NR (fS e (-c))) : Rn 1 (fS e (-c)) (fN e (-t) (-c)) := by
  have b := h.bd
  have hs := h.small
  have l := h.l60n
  have he := h.e1
  have hc := h.cm
  have := h.t1
  rw [← sh_S] at l ⊢
  refine rn_last (show 0 < e by omega) nr (lt60_S he (by omega) (by omega) (by omega)).l100 (thr_of (mono_S (by omega)) ?_ ?_ (n50 (by omega) (by omega))) (n50 (by omega) (by omega)) l.l100 ?_
  · rw [np_S (by omega)]
    have := h.hi
    refine decide_eq_true ?_
    rw [show (1 - 2 * -t) * (1 - 2 * -t) * (1 - 2 * -t) = (2 * t + 1) * (2 * t + 1) * (2 * t + 1) by grind]
    omega
  · rw [np_S (by omega)]
    have := h.lo
    refine decide_eq_false ?_
    rw [show (1 - 2 * (-t + 1)) * (1 - 2 * (-t + 1)) * (1 - 2 * (-t + 1)) = (2 * t - 1) * (2 * t - 1) * (2 * t - 1) by grind]
    omega
  · rw [sh_S, small_N]
    refine decide_eq_true ?_
    rwa [show -c * -c + (2 * (-t * -t * -t) - 3 * -t) * (e * -c) + (-t * -t - 1) * (-t * -t - 1) * (-t * -t - 1) * (e * e) = c * c + (2 * (t * t * t) - 3 * t) * (e * c) + (t * t - 1) * (t * t - 1) * (t * t - 1) * (e * e) by grind]
/-- what is asked of the least form -/
structure Lea (f g : Fo) : Prop where
  lead : ∃ m, LeadR f g m
  self : ∃ m, LeadR g g m
  l60 : Lt60 g
  kp : Kp f g
theorem lea_of {f g : Fo} (r : Rn 3 f g) (fa : 0 < f.a) (fp : f.b * f.b - 3 * (f.a * f.c) ≤ 0) (fl : Lt60 f) (nr : NR f) (ga : 0 < g.a) (gp : g.b * g.b - 3 * (g.a * g.c) ≤ 0) (gl : Lt60 g) : Lea f (fFi g) := by
  have h := lead_of r fa (plC_of fl fa fp nr)
  have k : Kp f (fFi g) := by
    obtain ⟨m, h⟩ := h
    exact kp_lead h nr
  exact ⟨h, least_self r ga gp gl (k.nr nr), gl.fi, k⟩
theorem pN (e t d : Int) : (fN e t d).b * (fN e t d).b - 3 * ((fN e t d).a * (fN e t d).c) ≤ 0 := by
  unfold fN; dsimp only; grind
/-- not split: a < b -/
theorem lea_lt {a b t : Int} (h : Mid a t b) (nr : NR (fS a b)) : Lea (fS a b) (fN a t b) := by
  have b := h.bd
  have h1 := h.e1
  have h2 := h.cm
  have := lea_of ((h.rn nr).up (by decide)) (show 0 < a by omega) (by show (0 : Int) * 0 - 3 * (a * 0) ≤ 0; omega) (lt60_S h1 (by omega) (by omega) h2) nr (show 0 < a by omega) (pN _ _ _) h.l60
  rwa [show fFi (fN a t _) = fN a t _ from if_neg (by show ¬ (3 * a * t < 0 ∨ (3 * a * t = 0 ∧ _)); rw [Int.mul_assoc]; omega)] at this
/-- not split: b < a -/
theorem lea_gt {a b t : Int} (h : Mid b t a) (nr : NR (fS a b)) : Lea (fS a b) (fN b t a) := by
  have bd := h.bd
  have h1 := h.e1
  have h2 := h.cm
  have nr2 : NR (fS b (-a)) := by
    have := (kp_ex (fS a b)).nr nr
    rwa [show fEx (fS a b) = fS b (-a) by unfold fEx fS; apply fo_ext <;> dsimp only <;> omega] at this
  have r1 : Rn 2 (fS a b) (fN b (-t) (-a)) := by
    refine rn_more (s := 0) (show 0 < a by omega) (lt60_S (by omega) h2 (by omega) (by omega)).l100 (thr_of (mono_S (by omega)) ?_ ?_ (by decide)) (by decide) ?_ ?_ (by decide) ?_
    · rw [np_S (by omega)]; exact decide_eq_true (by omega)
    · rw [np_S (by omega)]; exact decide_eq_false (by omega)
    · rw [fSh_zero]; exact (lt60_S (by omega) h2 (by omega) (by omega)).l100
    · rw [fSh_zero]
      unfold Fo.small fS
      refine decide_eq_false ?_
      have := Int.mul_pos (show 0 < a - b by omega) (show 0 < a + b by omega)
      grind
    · rw [fSh_zero, if_neg (by show ¬ b < 0; omega)]
      rw [show fEx (fS a b) = fS b (-a) by unfold fEx fS; apply fo_ext <;> dsimp only <;> omega]
      exact h.rnn nr2
  have := lea_of (r1.up (by decide)) (show 0 < a by omega) (by show (0 : Int) * 0 - 3 * (a * 0) ≤ 0; omega) (lt60_S (by omega) h2 (by omega) (by omega)) nr (show 0 < b by omega) (pN _ _ _) h.l60n
  rwa [show fFi (fN b (-t) (-a)) = fN b t a from (if_pos (by show (3 * b * -t < 0 ∨ _); left; rw [Int.mul_neg, Int.mul_assoc]; omega)).trans (by unfold fMi fN; apply fo_ext <;> dsimp only <;> grind)] at this
theorem mid_ex {e c : Int} (h1 : 1 ≤ e) (h2 : e < c) (h3 : c ≤ 1000000000000) (nr : NR (fS e c)) : ∃ t, Mid e t c := by
  obtain ⟨s, g1, g2, g3, g4⟩ := thr_ex (fun t => e * ((2 * t - 1) * (2 * t - 1) * (2 * t - 1)) < c) (c.toNat) 1 c (by omega) (by omega) (fun k => by
    have : e * (c * c * c) ≤ e * ((2 * c - 1) * (2 * c - 1) * (2 * c - 1)) := mul_le (by omega) (cu_mono (by omega))
    have q1 : c * 1 ≤ c * c := mul_le (by omega) (by omega)
    have q2 : c * c * 1 ≤ c * c * c := mul_le (by omega) (by omega)
    have q3 : c * c * c * 1 ≤ c * c * c * e := mul_le (by omega) (by omega)
    rw [Int.mul_comm _ e] at q3
    omega) (by omega)
  refine ⟨s, h1, g1, h3, g3, ?_⟩
  rw [show 2 * (s + 1) - 1 = 2 * s + 1 by omega] at g4
  rcases Int.lt_trichotomy c (e * ((2 * s + 1) * (2 * s + 1) * (2 * s + 1))) with q | q | q
  · exact q
  · have := (nr (2 * s + 1) (-1) (by rw [at_S]; grind)).2
    omega
  · exact absurd q g4
/-- not split -/
theorem lea_S {a b : Int} (h : AB a b) (hn : ¬ (a = 1 ∧ b = 1)) (ha : a ≤ 1000000000000) (hb : b ≤ 1000000000000) : ∃ g, Lea (fS a b) g := by
  have nr := h.nrS hn
  have h1 := h.a1
  have h2 := h.b1
  rcases Int.lt_trichotomy a b with c | c | c
  · obtain ⟨t, m⟩ := mid_ex h1 c hb nr
    exact ⟨_, lea_lt m nr⟩
  · subst c
    have := (nr 1 (-1) (by rw [at_S]; omega)).1
    omega
  · obtain ⟨t, m⟩ := mid_ex h2 c ha (h.swap.nrS fun k => hn k.symm)
    exact ⟨_, lea_gt m nr⟩
end Fr
namespace Fr
/-! ### (3 a, 3 a x, a x x, e) -/
theorem at_U' {a b x e : Int} (h : a * x * x * x + b = 9 * e) (X Y : Int) : 9 * (fU a x e).at X Y = a * ((3 * X + x * Y) * (3 * X + x * Y) * (3 * X + x * Y)) + b * ((0 * X + 1 * Y) * (0 * X + 1 * Y) * (0 * X + 1 * Y)) := by
  unfold Fo.at fU fAt; dsimp only; grind
theorem nr_U {a b x e : Int} (h : a * x * x * x + b = 9 * e) (nr : NR (fS a b)) : NR (fU a x e) := fun X Y k => by
  have := at_U h X Y
  rw [k] at this
  obtain ⟨h1, rfl⟩ := nr _ _ this.symm
  exact ⟨by omega, rfl⟩
theorem np_U {a b x e : Int} (h : a * x * x * x + b = 9 * e) (ha : 0 < a) (s : Int) : (fU a x e).np s = decide (0 < a * ((3 - 2 * (x + 3 * s)) * (3 - 2 * (x + 3 * s)) * (3 - 2 * (x + 3 * s))) + b) := by
  unfold Fo.np
  have : fAt (fU a x e).a (fU a x e).b (fU a x e).c (fU a x e).d ((fU a x e).a - (fU a x e).b - 2 * s * (fU a x e).a) (fU a x e).a = 3 * (a * a * a) * (a * ((3 - 2 * (x + 3 * s)) * (3 - 2 * (x + 3 * s)) * (3 - 2 * (x + 3 * s))) + b) := by
    have : b = 9 * e - a * x * x * x := by omega
    subst this
    unfold fU fAt; dsimp only; grind
  rw [this]
  have h3 : 0 < 3 * (a * a * a) := Int.mul_pos (by decide) (Int.mul_pos (Int.mul_pos ha ha) ha)
  by_cases c : 0 < a * ((3 - 2 * (x + 3 * s)) * (3 - 2 * (x + 3 * s)) * (3 - 2 * (x + 3 * s))) + b
  · rw [decide_eq_true c, decide_eq_true (Int.mul_pos h3 c)]
  · rw [decide_eq_false c, decide_eq_false fun k => c (pos_of_mul h3 k)]
theorem mono_U {a b x e : Int} (h : a * x * x * x + b = 9 * e) (ha : 0 < a) : ∀ u v, u ≤ v → (fU a x e).np v = true → (fU a x e).np u = true := by
  intro u v huv hv
  rw [np_U h ha] at *
  have hv := of_decide_eq_true hv
  refine decide_eq_true ?_
  have := mul_le (Int.le_of_lt ha) (cu_mono (show 3 - 2 * (x + 3 * v) ≤ 3 - 2 * (x + 3 * u) by omega))
  omega
theorem sh_U {a b x e p e' s : Int} (h : a * x * x * x + b = 9 * e) (h' : a * p * p * p + b = 9 * e') (hp : p = x + 3 * s) : fSh (fU a x e) s = fU a p e' := by
  subst hp
  unfold fSh fU; apply fo_ext <;> dsimp only
  · grind
  · grind
  · have : 9 * (((3 * a * s + 3 * a * x) * s + a * x * x) * s + e) = 9 * e' := by grind
    omega
def sU (a b p : Int) : Int := b * b + (2 * (p * p * p) - 27 * p) * (a * b) + (p * p - 9) * (p * p - 9) * (p * p - 9) * (a * a)
theorem small_U {a b p e : Int} (h : a * p * p * p + b = 9 * e) : (fU a p e).small = decide (0 < sU a b p) := by
  unfold Fo.small
  have : 81 * ((fU a p e).d * (fU a p e).d - (fU a p e).a * (fU a p e).a + (fU a p e).a * (fU a p e).c - (fU a p e).b * (fU a p e).d) = sU a b p := by
    have : b = 9 * e - a * p * p * p := by omega
    subst this
    unfold fU sU; dsimp only; grind
  rw [← this]
  generalize (fU a p e).d * (fU a p e).d - (fU a p e).a * (fU a p e).a + (fU a p e).a * (fU a p e).c - (fU a p e).b * (fU a p e).d = z
  by_cases c : 0 < z
  · rw [decide_eq_true c, decide_eq_true (by omega)]
  · rw [decide_eq_false c, decide_eq_false (by omega)]
structure Mi3 (a p b : Int) : Prop where
  a1 : 1 ≤ a
  am : a ≤ 1000000000000
  b1 : 1 ≤ b
  bm : b ≤ 1000000000000
  lo : a * ((2 * p - 3) * (2 * p - 3) * (2 * p - 3)) < b
  hi : b < a * ((2 * p + 3) * (2 * p + 3) * (2 * p + 3))
theorem mi3_ex {a b x : Int} (h1 : 1 ≤ a) (h1m : a ≤ 1000000000000) (h2 : 1 ≤ b) (h2m : b ≤ 1000000000000) (hx : x = 1 ∨ x = 2) (nr : NR (fS a b)) : ∃ s, Mi3 a (x + 3 * s) b ∧ (x = 1 → 0 ≤ s) ∧ (x = 2 → -1 ≤ s) := by
  obtain ⟨s, g1, g2, g3, g4⟩ := thr_ex (fun s => a * ((2 * (x + 3 * s) - 3) * (2 * (x + 3 * s) - 3) * (2 * (x + 3 * s) - 3)) < b) (b + 1).toNat (-1) b (by omega) (by rcases hx with rfl | rfl <;> omega) (fun k => by
    have : a * (b * b * b) ≤ a * ((2 * (x + 3 * b) - 3) * (2 * (x + 3 * b) - 3) * (2 * (x + 3 * b) - 3)) := mul_le (by omega) (cu_mono (by omega))
    have q1 : b * 1 ≤ b * b := mul_le (by omega) (by omega)
    have q2 : b * b * 1 ≤ b * b * b := mul_le (by omega) (by omega)
    have q3 : b * b * b * 1 ≤ b * b * b * a := mul_le (by omega) (by omega)
    rw [Int.mul_comm _ a] at q3
    omega) (by omega)
  have hi : b < a * ((2 * (x + 3 * s) + 3) * (2 * (x + 3 * s) + 3) * (2 * (x + 3 * s) + 3)) := by
    rw [show 2 * (x + 3 * (s + 1)) - 3 = 2 * (x + 3 * s) + 3 by omega] at g4
    rcases Int.lt_trichotomy b (a * ((2 * (x + 3 * s) + 3) * (2 * (x + 3 * s) + 3) * (2 * (x + 3 * s) + 3))) with q | q | q
    · exact q
    · have := (nr (2 * (x + 3 * s) + 3) (-1) (by rw [at_S]; grind)).2
      omega
    · exact absurd q g4
  refine ⟨s, ⟨h1, h1m, h2, h2m, g3, hi⟩, fun hx => ?_, fun _ => g1⟩
  subst hx
  rcases Int.lt_or_le s 0 with c | c
  · have : s = -1 := by omega
    subst this
    omega
  · exact c
theorem Mi3.bd {a p b : Int} (h : Mi3 a p b) (hp : 3 ≤ p) : a ≤ a * p ∧ a * p ≤ a * p * p ∧ a * p * p ≤ a * p * p * p ∧ a * p * p * p < b ∧ p ≤ a * p := by
  have h1 := h.a1
  have h4 := h.lo
  have a1 : a * 1 ≤ a * p := mul_le (by omega) (by omega)
  have a2 : (a * p) * 1 ≤ (a * p) * p := mul_le (by omega) (by omega)
  have a3 : (a * p * p) * 1 ≤ (a * p * p) * p := mul_le (by omega) (by omega)
  have a4 : a * (p * p * p) ≤ a * ((2 * p - 3) * (2 * p - 3) * (2 * p - 3)) := mul_le (by omega) (cu_mono (by omega))
  have a5 : p * 1 ≤ p * a := mul_le (by omega) h1
  rw [show a * (p * p * p) = a * p * p * p by grind] at a4
  rw [Int.mul_comm p a] at a5
  omega
theorem sU_pos {a b p : Int} (ha : 1 ≤ a) (hb : 1 ≤ b) (hp : 4 ≤ p) : 0 < sU a b p := by
  unfold sU
  have pp : 16 ≤ p * p := by
    have : 4 * p ≤ p * p := Int.mul_le_mul_of_nonneg_right hp (by omega)
    omega
  have p1 : 0 < b * b := Int.mul_pos (by omega) (by omega)
  have p2 : 0 ≤ (2 * (p * p * p) - 27 * p) * (a * b) := by
    refine Int.mul_nonneg ?_ (Int.mul_nonneg (by omega) (by omega))
    have : 0 ≤ p * (2 * (p * p) - 27) := Int.mul_nonneg (by omega) (by omega)
    grind
  have p3 : 0 ≤ (p * p - 9) * (p * p - 9) * (p * p - 9) * (a * a) := Int.mul_nonneg (Int.mul_nonneg (Int.mul_nonneg (by omega) (by omega)) (by omega)) (sq_nn a)
  omega
/-- the bounds of a shifted form -/
theorem Mi3.l60 {a p b e : Int} (h : Mi3 a p b) (hp : p = -1 ∨ p = 1 ∨ p = 2 ∨ 3 ≤ p) (he : a * p * p * p + b = 9 * e) : Lt60 (fU a p e) := by
  have h1 := h.a1
  have h2 := h.am
  have h3 := h.b1
  have h4 := h.bm
  rcases hp with rfl | rfl | rfl | hp
  · refine ⟨n60 ?_ ?_, n60 ?_ ?_, n60 ?_ ?_, n60 ?_ ?_⟩ <;> unfold fU <;> dsimp only <;> omega
  · refine ⟨n60 ?_ ?_, n60 ?_ ?_, n60 ?_ ?_, n60 ?_ ?_⟩ <;> unfold fU <;> dsimp only <;> omega
  · refine ⟨n60 ?_ ?_, n60 ?_ ?_, n60 ?_ ?_, n60 ?_ ?_⟩ <;> unfold fU <;> dsimp only <;> omega
  · have b := h.bd hp
    refine ⟨n60 ?_ ?_, n60 ?_ ?_, n60 ?_ ?_, n60 ?_ ?_⟩ <;> unfold fU <;> dsimp only <;> (try rw [Int.mul_assoc 3 a p]) <;> omega
theorem l60_neg {a q b e : Int} (h : Lt60 (fU a q e)) : Lt60 (fU a (-q) (-e)) := by
  have := h.mi
  have e : fMi (fU a q e) = fU a (-q) (-e) := by
    unfold fMi fU; apply fo_ext <;> dsimp only <;> grind
  rwa [← e]
theorem lt60_U {a x e : Int} (h1 : 1 ≤ a) (h2 : a ≤ 1000000000000) (hx : x = -1 ∨ x = 1 ∨ x = 2) (h3 : -1000000000000 ≤ e) (h4 : e ≤ 1000000000000) : Lt60 (fU a x e) := by
  rcases hx with rfl | rfl | rfl <;> refine ⟨n60 ?_ ?_, n60 ?_ ?_, n60 ?_ ?_, n60 ?_ ?_⟩ <;> unfold fU <;> dsimp only <;> omega
theorem Mi3.thr {a p b x e s : Int} (h : Mi3 a p b) (he : a * x * x * x + b = 9 * e) (hp : p = x + 3 * s) (hs : s.natAbs < 2 ^ 50) : Thr (fU a x e) s := by
  have h1 := h.a1
  refine thr_of (mono_U he (by omega)) ?_ ?_ hs
  · rw [np_U he (by omega)]
    have := h.lo
    refine decide_eq_true ?_
    rw [show 3 - 2 * (x + 3 * s) = -(2 * p - 3) by omega, show -(2 * p - 3) * -(2 * p - 3) * -(2 * p - 3) = -((2 * p - 3) * (2 * p - 3) * (2 * p - 3)) by grind, Int.mul_neg]
    omega
  · rw [np_U he (by omega)]
    have := h.hi
    refine decide_eq_false ?_
    rw [show 3 - 2 * (x + 3 * (s + 1)) = -(2 * p + 3) by omega, show -(2 * p + 3) * -(2 * p + 3) * -(2 * p + 3) = -((2 * p + 3) * (2 * p + 3) * (2 * p + 3)) by grind, Int.mul_neg]
    omega
theorem Mi3.thrn {b q a x e s : Int} (h : Mi3 b q a) (he : b * x * x * x + -a = 9 * e) (hq : -q = x + 3 * s) (hs : s.natAbs < 2 ^ 50) : Thr (fU b x e) s := by
  have h1 := h.a1
  refine thr_of (mono_U he (by omega)) ?_ ?_ hs
  · rw [np_U he (by omega)]
    have := h.hi
    refine decide_eq_true ?_
    rw [show 3 - 2 * (x + 3 * s) = 2 * q + 3 by omega]
    omega
  · rw [np_U he (by omega)]
    have := h.lo
    refine decide_eq_false ?_
    rw [show 3 - 2 * (x + 3 * (s + 1)) = 2 * q - 3 by omega]
    omega
theorem Mi3.p_le {a p b : Int} (h : Mi3 a p b) : p ≤ 1000000000000 := by
  rcases Int.lt_or_le p 3 with c | c
  · omega
  · have b := h.bd c
    have := h.bm
    omega
theorem Mi3.rn {a p b x e e' s : Int} (h : Mi3 a p b) (nr : NR (fS a b)) (he : a * x * x * x + b = 9 * e) (he' : a * p * p * p + b = 9 * e') (hp : p = x + 3 * s) (hx : x = 1 ∨ x = 2) (hp2 : p = -1 ∨ p = 1 ∨ p = 2 ∨ 3 ≤ p) (sm : 0 < sU a b p) : Rn 1 (fU a x e) (fU a p e') := by
  have h1 := h.a1
  have h2 := h.am
  have h3 := h.b1
  have h4 := h.bm
  have h5 := h.p_le
  have hs : s.natAbs < 2 ^ 50 := n50 (by omega) (by omega)
  rw [← sh_U he he' hp]
  refine rn_last (show 0 < 3 * a by omega) (nr_U he nr) (lt60_U h1 h2 (.inr hx) (by rcases hx with rfl | rfl <;> omega) (by rcases hx with rfl | rfl <;> omega)).l100 (h.thr he hp hs) hs ?_ ?_
  · rw [sh_U he he' hp]; exact (h.l60 hp2 he').l100
  · rw [sh_U he he' hp, small_U he']; exact decide_eq_true sm
/-- the last turn behind two exchanges -/
theorem Mi3.rnn {b q a x e e' s : Int} (h : Mi3 b q a) (nr : NR (fS b (-a))) (he : b * x * x * x + -a = 9 * e) (he' : b * q * q * q + a = 9 * e') (hq : -q = x + 3 * s) (hx : x = 1 ∨ x = -1) (hp2 : q = -1 ∨ q = 1 ∨ q = 2 ∨ 3 ≤ q) (sm : 0 < sU b a q) : Rn 1 (fU b x e) (fU b (-q) (-e')) := by
  have h1 := h.a1
  have h2 := h.am
  have h3 := h.b1
  have h4 := h.bm
  have h5 := h.p_le
  have hs : s.natAbs < 2 ^ 50 := n50 (by omega) (by omega)
  have he2 : b * -q * -q * -q + -a = 9 * -e' := by grind
  rw [← sh_U he he2 hq]
  refine rn_last (show 0 < 3 * b by omega) (nr_U he nr) (lt60_U h1 h2 (by omega) (by rcases hx with rfl | rfl <;> omega) (by rcases hx with rfl | rfl <;> omega)).l100 (h.thrn he hq hs) hs ?_ ?_
  · rw [sh_U he he2 hq]; exact (l60_neg (b := b) (h.l60 hp2 he')).l100
  · rw [sh_U he he2 hq, small_U he2]
    refine decide_eq_true ?_
    rwa [show sU b (-a) (-q) = sU b a q by unfold sU; grind]
theorem pU (a p e : Int) : (fU a p e).b * (fU a p e).b - 3 * ((fU a p e).a * (fU a p e).c) ≤ 0 := by
  unfold fU; dsimp only; grind
theorem nr_ex {f : Fo} (h : NR f) : NR (fEx f) := (kp_ex f).nr h
theorem nr_neg {a b : Int} (h : NR (fS a b)) : NR (fS b (-a)) := by
  have := nr_ex h
  rwa [show fEx (fS a b) = fS b (-a) by unfold fEx fS; apply fo_ext <;> dsimp only <;> omega] at this
/-- a step's end: the form is known -/
theorem rn_fin {f g : Fo} {s : Int} (ha : 0 < f.a) (nr : NR f) (l1 : Lt60 f) (mono : ∀ x y, x ≤ y → f.np y = true → f.np x = true) (h1 : f.np s = true) (h2 : f.np (s + 1) = false) (hs : s.natAbs < 2 ^ 50) (e : fSh f s = g) (l2 : Lt60 g) (sm : g.small = true) : Rn 1 f g := by
  subst e
  exact rn_last ha nr l1.l100 (thr_of mono h1 h2 hs) hs l2.l100 sm
theorem rn_ex {f g h e : Fo} {s : Int} {k : Nat} (ha : 0 < f.a) (l1 : Lt60 f) (mono : ∀ x y, x ≤ y → f.np y = true → f.np x = true) (h1 : f.np s = true) (h2 : f.np (s + 1) = false) (hs : s.natAbs < 2 ^ 50) (eq : fSh f s = g) (l2 : Lt60 g) (sm : g.small = false) (hd : 0 < g.d) (eh : fEx g = h) (hk : k ≤ 2) (r : Rn k h e) : Rn (k + 1) f e := by
  subst eq eh
  exact rn_more ha l1.l100 (thr_of mono h1 h2 hs) hs l2.l100 sm hk (by rw [if_neg (by omega)]; exact r)
theorem np_t {f : Fo} {s z : Int} (e : fAt f.a f.b f.c f.d (f.a - f.b - 2 * s * f.a) f.a = z) (h : 0 < z) : f.np s = true := by
  unfold Fo.np; rw [e]; exact decide_eq_true h
theorem np_f {f : Fo} {s z : Int} (e : fAt f.a f.b f.c f.d (f.a - f.b - 2 * s * f.a) f.a = z) (h : ¬ 0 < z) : f.np s = false := by
  unfold Fo.np; rw [e]; exact decide_eq_false h
theorem sm_t {f : Fo} {z : Int} (e : f.d * f.d - f.a * f.a + f.a * f.c - f.b * f.d = z) (h : 0 < z) : f.small = true := by
  unfold Fo.small; rw [e]; exact decide_eq_true h
theorem sm_f {f : Fo} {z : Int} (e : f.d * f.d - f.a * f.a + f.a * f.c - f.b * f.d = z) (h : ¬ 0 < z) : f.small = false := by
  unfold Fo.small; rw [e]; exact decide_eq_false h
end Fr
namespace Fr
theorem l60_of {a b c d : Int} (h1 : -1000000000000000 < a ∧ a < 1000000000000000) (h2 : -1000000000000000 < b ∧ b < 1000000000000000) (h3 : -1000000000000000 < c ∧ c < 1000000000000000) (h4 : -1000000000000000 < d ∧ d < 1000000000000000) : Lt60 ⟨a, b, c, d⟩ :=
  ⟨n60 h1.1 h1.2, n60 h2.1 h2.2, n60 h3.1 h3.2, n60 h4.1 h4.2⟩
theorem mod3_sq {z : Int} (h : z * z % 3 = 0) : z % 3 = 0 := Int.emod_eq_zero_of_dvd (pri3.sq (Int.dvd_of_emod_eq_zero h))
/-- e e = 3 a y wants 3 in a, or in y -/
theorem sq3 {e a y : Int} (h : e * e = 3 * (a * y)) : (a * y) % 3 = 0 ∧ e % 3 = 0 := by
  have h1 : e % 3 = 0 := mod3_sq (by omega)
  obtain ⟨k, rfl⟩ := Int.dvd_of_emod_eq_zero h1
  have : 3 * (k * k) = a * y := by grind
  omega
/-! ### (2, 1): the rows (3, 0), (2, 1) -/
section
variable {a b e : Int}
def f2b (a e : Int) : Fo := ⟨e, -(4 * a), 6 * a, -(3 * a)⟩
theorem lea_p2 (h : Mi3 a 2 b) (he : a * 2 * 2 * 2 + b = 9 * e) (nr : NR (fS a b)) (n3 : a % 3 ≠ 0) : ∃ g, Rn 3 (fU a 2 e) g ∧ 0 < g.a ∧ g.b * g.b - 3 * (g.a * g.c) ≤ 0 ∧ Lt60 g := by
  have h1 := h.a1
  have h2 := h.am
  have h3 := h.b1
  have h4 := h.bm
  have h5 := h.lo
  have hea : a < e := by omega
  have he0 : 0 < e := by omega
  have eb : b = 9 * e - 8 * a := by omega
  by_cases sm : 0 < sU a b 2
  · exact ⟨_, (h.rn nr he he (s := 0) (by omega) (.inr rfl) (by omega) sm).up (by decide), show 0 < 3 * a by omega, pU _ _ _, h.l60 (by omega) he⟩
  have sm2 : ¬ 0 < e * e - 6 * (a * e) + 3 * (a * a) := fun k => sm (by
    rw [show sU a b 2 = 81 * (e * e - 6 * (a * e) + 3 * (a * a)) by rw [eb]; unfold sU; grind]
    omega)
  have hs : 0 < 6 * (a * e) - 3 * (a * a) - e * e := by
    rcases Int.lt_trichotomy (6 * (a * e) - 3 * (a * a) - e * e) 0 with q | q | q
    · omega
    · obtain ⟨q1, q2⟩ := sq3 (e := e) (a := a) (y := 2 * e - a) (by grind)
      obtain ⟨k, rfl⟩ := Int.dvd_of_emod_eq_zero q2
      have : a * a % 3 = 0 := by
        have : a * a = 3 * (2 * (a * k)) - a * (2 * (3 * k) - a) := by grind
        omega
      exact absurd (mod3_sq this) n3
    · exact q
  have haa : 0 < a * a := Int.mul_pos (by omega) (by omega)
  have hee : 0 < e * e := Int.mul_pos he0 he0
  have hae : 0 < a * e := Int.mul_pos (by omega) he0
  have fx : fEx (fU a 2 e) = f2b a e := by
    unfold fEx fU f2b; apply fo_ext <;> dsimp only <;> omega
  have nr2 : NR (f2b a e) := fx ▸ nr_ex (nr_U he nr)
  have l2 : Lt60 (f2b a e) := l60_of (by omega) (by omega) (by omega) (by omega)
  have mono : ∀ x y, x ≤ y → (f2b a e).np y = true → (f2b a e).np x = true := np_two (k := 9) (a := a) (b := b) (p1 := 2) (p2 := -3) (q1 := 1) (q2 := 0) (by decide) (by omega) (by omega) (by decide) (by decide) (show 0 < e by omega) (fun X Y => by
    rw [eb]; unfold Fo.at f2b fAt; dsimp only; grind)
  have np0 : (f2b a e).np 0 = true := np_t (z := e * e * (e * e + 11 * (a * e) + 40 * (a * a))) (by unfold f2b fAt; dsimp only; grind) (Int.mul_pos hee (by omega))
  have e1 : fAt (f2b a e).a (f2b a e).b (f2b a e).c (f2b a e).d ((f2b a e).a - (f2b a e).b - 2 * 1 * (f2b a e).a) (f2b a e).a = e * e * (8 * (a * a) - a * e - e * e) := by unfold f2b fAt; dsimp only; grind
  have np2 : (f2b a e).np 2 = false := np_f (z := -(3 * (b * (e * e * (e - a))))) (by rw [eb]; unfold f2b fAt; dsimp only; grind) (by
    have := Int.mul_pos (show 0 < b by omega) (Int.mul_pos hee (show 0 < e - a by omega))
    omega)
  have step : ∀ g, Rn 1 (f2b a e) g → Rn 3 (fU a 2 e) g := fun g r => by
    refine (Rn.up (k := 2) ?_ (by decide))
    exact rn_more (s := 0) (show 0 < 3 * a by omega) (lt60_U h1 h2 (by omega) (by omega) (by omega)).l100 (h.thr he (by omega) (by decide)) (by decide) (by rw [fSh_zero]; exact (lt60_U h1 h2 (by omega) (by omega) (by omega)).l100) (by rw [fSh_zero, small_U he]; exact decide_eq_false sm) (by decide) (by
      rw [fSh_zero, if_neg (show ¬ (fU a 2 e).d < 0 from show ¬ e < 0 by omega), fx]; exact r)
  by_cases c : 0 < 8 * (a * a) - a * e - e * e
  · have np1 : (f2b a e).np 1 = true := np_t e1 (Int.mul_pos hee c)
    refine ⟨⟨e, 3 * e - 4 * a, 3 * e - 2 * a, e - a⟩, step _ (rn_fin (s := 1) (show 0 < e by omega) nr2 l2 mono np1 np2 (by decide) ?_ (l60_of (by omega) (by omega) (by omega) (by omega)) (sm_t (z := 3 * (a * (e - a))) (by dsimp only; grind) (by
      have := Int.mul_pos (show 0 < a by omega) (show 0 < e - a by omega)
      omega))), he0, ?_, l60_of (by omega) (by omega) (by omega) (by omega)⟩
    · unfold fSh f2b; apply fo_ext <;> dsimp only <;> omega
    · dsimp only
      have := Int.mul_pos (show 0 < a by omega) (show 0 < b by omega)
      rw [show (3 * e - 4 * a) * (3 * e - 4 * a) - 3 * (e * (3 * e - 2 * a)) = -(2 * (a * b)) by rw [eb]; grind]
      omega
  · have np1 : (f2b a e).np (0 + 1) = false := np_f e1 (fun k => c (pos_of_mul hee k))
    refine ⟨f2b a e, step _ (rn_fin (s := 0) (show 0 < e by omega) nr2 l2 mono np0 np1 (by decide) (fSh_zero _) l2 (sm_t (z := 6 * (a * e) - 3 * (a * a) - e * e) (by unfold f2b; dsimp only; grind) hs)), he0, ?_, l2⟩
    unfold f2b; dsimp only
    have := Int.mul_pos (show 0 < a by omega) (show 0 < b by omega)
    rw [show -(4 * a) * -(4 * a) - 3 * (e * (6 * a)) = -(2 * (a * b)) by rw [eb]; grind]
    omega
/-! ### (1, 1): the rows (3, 0), (1, 1) -/
def f2a (a e : Int) : Fo := ⟨e, -a, 3 * a, -(3 * a)⟩
theorem sU_big {b a q : Int} (hb : 1 ≤ b) (ha : 1 ≤ a) (h : 4 ≤ q) : 0 < sU b a q := sU_pos hb ha h
theorem nine {x y : Int} (h : ∃ k, x = 9 * k + y) : x % 9 = y % 9 := by
  obtain ⟨k, rfl⟩ := h
  omega
theorem lea_p1 (h : Mi3 a 1 b) (he : a * 1 * 1 * 1 + b = 9 * e) (nr : NR (fS a b)) (n3 : a % 3 ≠ 0 ∧ b % 3 ≠ 0) : ∃ g, Rn 3 (fU a 1 e) g ∧ 0 < g.a ∧ g.b * g.b - 3 * (g.a * g.c) ≤ 0 ∧ Lt60 g := by
  have h1 := h.a1
  have h2 := h.am
  have h3 := h.b1
  have h4 := h.bm
  have he0 : 0 < e := by omega
  have eb : b = 9 * e - a := by omega
  by_cases sm : 0 < sU a b 1
  · exact ⟨_, (h.rn nr he he (s := 0) (by omega) (.inl rfl) (by omega) sm).up (by decide), show 0 < 3 * a by omega, pU _ _ _, h.l60 (by omega) he⟩
  have sm2 : ¬ 0 < e * e - 3 * (a * e) - 6 * (a * a) := fun k => sm (by
    rw [show sU a b 1 = 81 * (e * e - 3 * (a * e) - 6 * (a * a)) by rw [eb]; unfold sU; grind]
    omega)
  have hs : 0 < 6 * (a * a) + 3 * (a * e) - e * e := by
    rcases Int.lt_trichotomy (6 * (a * a) + 3 * (a * e) - e * e) 0 with q | q | q
    · omega
    · obtain ⟨q1, q2⟩ := sq3 (e := e) (a := a) (y := e + 2 * a) (by grind)
      obtain ⟨k, rfl⟩ := Int.dvd_of_emod_eq_zero q2
      have : a * a % 3 = 0 := by
        have : a * (3 * k + 2 * a) = 3 * (a * k) + 2 * (a * a) := by grind
        omega
      exact absurd (mod3_sq this) n3.1
    · exact q
  have haa : 0 < a * a := Int.mul_pos (by omega) (by omega)
  have hee : 0 < e * e := Int.mul_pos he0 he0
  have hae : 0 < a * e := Int.mul_pos (by omega) he0
  have heee : 0 < e * e * e := Int.mul_pos hee he0
  have hab : 0 < a * b := Int.mul_pos (by omega) (by omega)
  have fx : fEx (fU a 1 e) = f2a a e := by
    unfold fEx fU f2a; apply fo_ext <;> dsimp only <;> omega
  have nr2 : NR (f2a a e) := fx ▸ nr_ex (nr_U he nr)
  have l2 : Lt60 (f2a a e) := l60_of (by omega) (by omega) (by omega) (by omega)
  have mono : ∀ x y, x ≤ y → (f2a a e).np y = true → (f2a a e).np x = true := np_two (k := 9) (a := a) (b := b) (p1 := 1) (p2 := -3) (q1 := 1) (q2 := 0) (by decide) (by omega) (by omega) (by decide) (by decide) (show 0 < e by omega) (fun X Y => by
    rw [eb]; unfold Fo.at f2a fAt; dsimp only; grind)
  have np0 : (f2a a e).np 0 = true := np_t (z := e * e * (e * e + 2 * (a * e) + 4 * (a * a))) (by unfold f2a fAt; dsimp only; grind) (Int.mul_pos hee (by omega))
  have e1 : fAt (f2a a e).a (f2a a e).b (f2a a e).c (f2a a e).d ((f2a a e).a - (f2a a e).b - 2 * 1 * (f2a a e).a) (f2a a e).a = e * e * (2 * (a * a) - 4 * (a * e) - e * e) := by unfold f2a fAt; dsimp only; grind
  have e2 : fAt (f2a a e).a (f2a a e).b (f2a a e).c (f2a a e).d ((f2a a e).a - (f2a a e).b - 2 * 2 * (f2a a e).a) (f2a a e).a = e * e * e * (3 * (2 * a - 9 * e)) := by unfold f2a fAt; dsimp only; grind
  have e3 : fAt (f2a a e).a (f2a a e).b (f2a a e).c (f2a a e).d ((f2a a e).a - (f2a a e).b - 2 * 3 * (f2a a e).a) (f2a a e).a = e * e * (32 * (a * e) - 2 * (a * a) - 125 * (e * e)) := by unfold f2a fAt; dsimp only; grind
  have e4 : fAt (f2a a e).a (f2a a e).b (f2a a e).c (f2a a e).d ((f2a a e).a - (f2a a e).b - 2 * 4 * (f2a a e).a) (f2a a e).a = e * e * (74 * (a * e) - 4 * (a * a) - 343 * (e * e)) := by unfold f2a fAt; dsimp only; grind
  have np4 : (f2a a e).np 4 = false := np_f e4 (fun k => by
    have k := pos_of_mul hee k
    have := sq_nn (4 * a - 37 * e)
    grind)
  have step : ∀ k g, k ≤ 2 → Rn k (f2a a e) g → Rn 3 (fU a 1 e) g := fun k g hk r => by
    refine (Rn.up (k := k + 1) ?_ (by omega))
    exact rn_more (s := 0) (show 0 < 3 * a by omega) (lt60_U h1 h2 (by omega) (by omega) (by omega)).l100 (h.thr he (by omega) (by decide)) (by decide) (by rw [fSh_zero]; exact (lt60_U h1 h2 (by omega) (by omega) (by omega)).l100) (by rw [fSh_zero, small_U he]; exact decide_eq_false sm) hk (by
      rw [fSh_zero, if_neg (show ¬ (fU a 1 e).d < 0 from show ¬ e < 0 by omega), fx]; exact r)
  by_cases c1 : ¬ 0 < 2 * (a * a) - 4 * (a * e) - e * e
  · have np1 : (f2a a e).np (0 + 1) = false := np_f e1 (fun k => c1 (pos_of_mul hee k))
    refine ⟨f2a a e, step 1 _ (by decide) (rn_fin (s := 0) (show 0 < e by omega) nr2 l2 mono np0 np1 (by decide) (fSh_zero _) l2 (sm_t (z := 6 * (a * a) + 3 * (a * e) - e * e) (by unfold f2a; dsimp only; grind) hs)), he0, ?_, l2⟩
    unfold f2a; dsimp only
    rw [show -a * -a - 3 * (e * (3 * a)) = -(a * b) by rw [eb]; grind]
    omega
  have c1 := Decidable.not_not.mp c1
  have np1 : (f2a a e).np 1 = true := np_t e1 (Int.mul_pos hee c1)
  by_cases c2 : ¬ 0 < 2 * a - 9 * e
  · have np2 : (f2a a e).np (1 + 1) = false := np_f e2 (fun k => c2 (by have := pos_of_mul heee k; omega))
    refine ⟨⟨e, 3 * e - a, 3 * e + a, e - a⟩, step 1 _ (by decide) (rn_fin (s := 1) (show 0 < e by omega) nr2 l2 mono np1 np2 (by decide) ?_ (l60_of (by omega) (by omega) (by omega) (by omega)) (sm_t (z := 3 * (a * e)) (by dsimp only; grind) (by omega))), he0, ?_, l60_of (by omega) (by omega) (by omega) (by omega)⟩
    · unfold fSh f2a; apply fo_ext <;> dsimp only <;> omega
    · dsimp only
      rw [show (3 * e - a) * (3 * e - a) - 3 * (e * (3 * e + a)) = -(a * b) by rw [eb]; grind]
      omega
  have c2 := Decidable.not_not.mp c2
  have np2 : (f2a a e).np 2 = true := np_t e2 (Int.mul_pos heee (by omega))
  by_cases c3 : ¬ 0 < 32 * (a * e) - 2 * (a * a) - 125 * (e * e)
  · have np3 : (f2a a e).np (2 + 1) = false := np_f e3 (fun k => c3 (pos_of_mul hee k))
    refine ⟨⟨e, 6 * e - a, 12 * e - a, 8 * e - a⟩, step 1 _ (by decide) (rn_fin (s := 2) (show 0 < e by omega) nr2 l2 mono np2 np3 (by decide) ?_ (l60_of (by omega) (by omega) (by omega) (by omega)) (sm_t (z := 3 * (e * b)) (by rw [eb]; dsimp only; grind) (by
      have := Int.mul_pos he0 (show 0 < b by omega)
      omega))), he0, ?_, l60_of (by omega) (by omega) (by omega) (by omega)⟩
    · unfold fSh f2a; apply fo_ext <;> dsimp only <;> omega
    · dsimp only
      rw [show (6 * e - a) * (6 * e - a) - 3 * (e * (12 * e - a)) = -(a * b) by rw [eb]; grind]
      omega
  have c3 := Decidable.not_not.mp c3
  have np3 : (f2a a e).np 3 = true := np_t e3 (Int.mul_pos hee c3)
  have ea : a = 9 * e - b := by omega
  have eq3 : fSh (f2a a e) 3 = ⟨e, b, 3 * b, 3 * b⟩ := by
    rw [eb]; unfold fSh f2a; apply fo_ext <;> dsimp only <;> omega
  have l3 : Lt60 ⟨e, b, 3 * b, 3 * b⟩ := l60_of (by omega) (by omega) (by omega) (by omega)
  by_cases c4 : 0 < 6 * (b * b) + 3 * (e * b) - e * e
  · refine ⟨⟨e, b, 3 * b, 3 * b⟩, step 1 _ (by decide) (rn_fin (s := 3) (show 0 < e by omega) nr2 l2 mono np3 np4 (by decide) eq3 l3 (sm_t (z := 6 * (b * b) + 3 * (e * b) - e * e) (by dsimp only; grind) c4)), he0, ?_, l3⟩
    dsimp only
    rw [show b * b - 3 * (e * (3 * b)) = -(a * b) by rw [ea]; grind]
    omega
  -- the second exchange
  have hbe : 0 < b * e := Int.mul_pos (by omega) he0
  have hbb : 0 < b * b := Int.mul_pos (by omega) (by omega)
  have hs2 : 0 < e * e - 3 * (e * b) - 6 * (b * b) := by
    rcases Int.lt_trichotomy (e * e - 3 * (e * b) - 6 * (b * b)) 0 with q | q | q
    · omega
    · obtain ⟨q1, q2⟩ := sq3 (e := e) (a := b) (y := e + 2 * b) (by grind)
      obtain ⟨k, rfl⟩ := Int.dvd_of_emod_eq_zero q2
      have : b * b % 3 = 0 := by
        have : b * (3 * k + 2 * b) = 3 * (b * k) + 2 * (b * b) := by grind
        omega
      exact absurd (mod3_sq this) n3.2
    · exact q
  have heb : b < e := by
    rcases Int.lt_or_le b e with q | q
    · exact q
    · have := Int.mul_le_mul_of_nonneg_left q (show 0 ≤ e by omega)
      omega
  obtain ⟨s', m, ms, _⟩ := mi3_ex (x := 1) h3 h4 h1 h2 (.inl rfl) (fun X Y k => by
    have := nr Y X (by rw [at_S] at k ⊢; omega)
    exact this.symm)
  have ms := ms rfl
  generalize hq : 1 + 3 * s' = q at m
  have hq9 : ∃ e', b * q * q * q + a = 9 * e' := by
    refine ⟨e + b * s' + 3 * (b * s' * s') + 3 * (b * s' * s' * s'), ?_⟩
    rw [ea, ← hq]; grind
  obtain ⟨e', he'⟩ := hq9
  have smq : 0 < sU b a q := by
    by_cases q1 : q = 1
    · subst q1
      rw [show sU b a 1 = 81 * (e * e - 3 * (e * b) - 6 * (b * b)) by rw [ea]; unfold sU; grind]
      omega
    · exact sU_pos h3 h1 (by omega)
  have hb9 : b * -1 * -1 * -1 + -a = 9 * -e := by omega
  have last := m.rnn (nr_neg nr) hb9 he' (s := -s') (by omega) (.inr rfl) (by omega) smq
  refine ⟨_, step 2 _ (by decide) (rn_ex (s := 3) (show 0 < e by omega) l2 mono np3 np4 (by decide) eq3 l3 (sm_f (z := 6 * (b * b) + 3 * (e * b) - e * e) (by dsimp only; grind) c4) (show 0 < 3 * b by omega) ?_ (by decide) last), show 0 < 3 * b by omega, pU _ _ _, l60_neg (b := b) (m.l60 (by omega) he')⟩
  unfold fEx fU; apply fo_ext <;> dsimp only <;> omega
end
end Fr
namespace Fr
/-! ### (2, 1) behind the shift by -1: the rows (3, 0), (-1, 1) -/
def f2m (a e : Int) : Fo := ⟨e, a, 3 * a, 3 * a⟩
def f4m (b e : Int) : Fo := ⟨e + b, b - 3 * e, 3 * e + b, -e⟩
section
variable {a b e : Int}
theorem ratio {a b e Z W : Int} (ha : 0 < a) (hb : 0 < b) (hab : b ≤ a) (he : 0 < e) (hW : 0 < W) (hZW : Z ≤ W) (h : a * ((W - 3 * e) * (W - 3 * e) * (W - 3 * e)) < b * (W * W * W)) : a * ((Z - 3 * e) * (Z - 3 * e) * (Z - 3 * e)) < b * (Z * Z * Z) := by
  rcases Int.lt_or_le 0 Z with hZ | hZ
  · have c1 : (Z - 3 * e) * W ≤ (W - 3 * e) * Z := by
      have : 0 ≤ e * (W - Z) := Int.mul_nonneg (by omega) (by omega)
      grind
    have c2 := mul_le (Int.le_of_lt ha) (cu_mono c1)
    have W3 : 0 < W * W * W := Int.mul_pos (Int.mul_pos hW hW) hW
    have Z3 : 0 < Z * Z * Z := Int.mul_pos (Int.mul_pos hZ hZ) hZ
    have c3 := mul_lt Z3 h
    refine lt_of_mul W3 ?_
    grind
  · have c1 : (Z - 3 * e) * (Z - 3 * e) * (Z - 3 * e) < Z * Z * Z := by
      have h1 := sq_nn (2 * Z - 3 * e)
      have h2 := Int.mul_pos he he
      have h3 : 0 < 3 * e * (3 * (Z * Z) + -3 * (Z * (3 * e)) + 9 * (e * e)) := by
        refine Int.mul_pos (by omega) ?_
        have h4 := sq_nn Z
        have h5 : 0 ≤ -Z * e := Int.mul_nonneg (by omega) (by omega)
        grind
      grind
    have c2 := mul_lt ha c1
    have Z3 : Z * Z * Z ≤ 0 := by
      have := Int.mul_nonneg (sq_nn Z) (show 0 ≤ -Z by omega)
      grind
    have c3 : 0 ≤ (a - b) * -(Z * Z * Z) := Int.mul_nonneg (by omega) (by omega)
    grind
theorem np_2m (he : 0 < e) (hb : 0 < b) (ha : a = 9 * e + b) (s : Int) : (f2m a e).np s = decide (a * ((a - e + 2 * s * e - 3 * e) * (a - e + 2 * s * e - 3 * e) * (a - e + 2 * s * e - 3 * e)) < b * ((a - e + 2 * s * e) * (a - e + 2 * s * e) * (a - e + 2 * s * e))) := by
  unfold Fo.np
  have : 9 * fAt (f2m a e).a (f2m a e).b (f2m a e).c (f2m a e).d ((f2m a e).a - (f2m a e).b - 2 * s * (f2m a e).a) (f2m a e).a = b * ((a - e + 2 * s * e) * (a - e + 2 * s * e) * (a - e + 2 * s * e)) - a * ((a - e + 2 * s * e - 3 * e) * (a - e + 2 * s * e - 3 * e) * (a - e + 2 * s * e - 3 * e)) := by
    have : b = a - 9 * e := by omega
    subst this
    unfold f2m fAt; dsimp only; grind
  generalize fAt (f2m a e).a (f2m a e).b (f2m a e).c (f2m a e).d ((f2m a e).a - (f2m a e).b - 2 * s * (f2m a e).a) (f2m a e).a = z at this
  congr 1
  apply propext
  constructor <;> intro h <;> omega
theorem thr_2m (he : 0 < e) (hb : 0 < b) (ha : a = 9 * e + b) {s : Int} (hs : -3 ≤ s) (hs2 : s.natAbs < 2 ^ 50) (h1 : (f2m a e).np s = true) (h2 : (f2m a e).np (s + 1) = false) : Thr (f2m a e) s := by
  have pos : ∀ t, -2 ≤ t → 0 < a - e + 2 * t * e := fun t ht => by
    have : -2 * e ≤ t * e := Int.mul_le_mul_of_nonneg_right ht (by omega)
    grind
  refine ⟨fun x => ?_, Nat.lt_of_lt_of_le hs2 (by decide)⟩
  rw [np_2m he hb ha] at h1 h2 ⊢
  have h1 := of_decide_eq_true h1
  have h2 := of_decide_eq_false h2
  by_cases c : x ≤ s
  · rw [decide_eq_true c]
    refine decide_eq_true ?_
    have le : a - e + 2 * x * e ≤ a - e + 2 * s * e := by
      have : x * e ≤ s * e := Int.mul_le_mul_of_nonneg_right c (by omega)
      grind
    rcases Int.lt_or_le 0 (a - e + 2 * s * e) with w | w
    · exact ratio (by omega) hb (by omega) he w le h1
    · generalize a - e + 2 * x * e = Z at le ⊢
      have hZ : Z ≤ 0 := by omega
      have c1 : (Z - 3 * e) * (Z - 3 * e) * (Z - 3 * e) < Z * Z * Z := by
        have h2 := Int.mul_pos he he
        have h3 : 0 < 3 * e * (3 * (Z * Z) + -3 * (Z * (3 * e)) + 9 * (e * e)) := by
          refine Int.mul_pos (by omega) ?_
          have h4 := sq_nn Z
          have h5 : 0 ≤ -Z * e := Int.mul_nonneg (by omega) (by omega)
          grind
        grind
      have c2 := mul_lt (show 0 < a by omega) c1
      have Z3 : Z * Z * Z ≤ 0 := by
        have := Int.mul_nonneg (sq_nn Z) (show 0 ≤ -Z by omega)
        grind
      have c3 : 0 ≤ (a - b) * -(Z * Z * Z) := Int.mul_nonneg (by omega) (by omega)
      grind
  · rw [decide_eq_false c]
    refine decide_eq_false fun k => h2 ?_
    have le : a - e + 2 * (s + 1) * e ≤ a - e + 2 * x * e := by
      have : (s + 1) * e ≤ x * e := Int.mul_le_mul_of_nonneg_right (by omega) (by omega)
      grind
    exact ratio (by omega) hb (by omega) he (pos x (by omega)) le k
theorem lea_pm (h : Mi3 a (-1) b) {e0 : Int} (he0 : a * 2 * 2 * 2 + b = 9 * e0) (nr : NR (fS a b)) (n3 : b % 3 ≠ 0) : ∃ e, a = 9 * e + b ∧ 0 < e ∧ 0 < b ∧ ∃ g, Rn 3 (f2m a e) g ∧ (∀ g, Rn 2 (f2m a e) g → Rn 3 (fU a 2 e0) g) ∧ ((Rn 2 (f2m a e) g) ∧ 0 < g.a ∧ g.b * g.b - 3 * (g.a * g.c) ≤ 0 ∧ Lt60 g ∧ (e * e < 2 * (b * b) + 4 * (b * e) → e * e + 3 * (b * e) - 6 * (b * b) < 0 → g = f4m b e)) := by
  have h1 := h.a1
  have h2 := h.am
  have h3 := h.b1
  have h4 := h.bm
  have h5 : b < a * ((2 * -1 + 3) * (2 * -1 + 3) * (2 * -1 + 3)) := h.hi
  obtain ⟨e, ea⟩ : ∃ e, a = 9 * e + b := ⟨a - e0, by omega⟩
  have he : 0 < e := by omega
  have hb : 0 < b := by omega
  have ha : 0 < a := by omega
  refine ⟨e, ea, he, hb, ?_⟩
  have heq : a * -1 * -1 * -1 + b = 9 * -e := by omega
  have nrU := nr_U heq nr
  have haa : 0 < a * a := Int.mul_pos ha ha
  have hee : 0 < e * e := Int.mul_pos he he
  have hbb : 0 < b * b := Int.mul_pos hb hb
  have hbe : 0 < b * e := Int.mul_pos hb he
  have shU : fSh (fU a 2 e0) (-1) = fU a (-1) (-e) := sh_U he0 heq (by omega)
  have lU : Lt60 (fU a (-1) (-e)) := lt60_U h1 h2 (.inl rfl) (by omega) (by omega)
  have smU : (fU a (-1) (-e)).small = false := by
    rw [small_U heq]
    refine decide_eq_false fun k => ?_
    unfold sU at k
    have : b * b ≤ a * a := by
      have q1 : b * b ≤ b * a := mul_le (by omega) (by omega)
      have q2 : b * a ≤ a * a := Int.mul_le_mul_of_nonneg_right (by omega) (by omega)
      omega
    have : a * b ≤ a * a := mul_le (by omega) (by omega)
    omega
  have fx : fOp (fEx (fU a (-1) (-e))) = f2m a e := by
    unfold fOp fEx fU f2m; apply fo_ext <;> dsimp only <;> omega
  have step : ∀ g, Rn 2 (f2m a e) g → Rn 3 (fU a 2 e0) g := fun g r => by
    refine rn_more (s := -1) (show 0 < 3 * a by omega) (lt60_U h1 h2 (by omega) (by omega) (by omega)).l100 (h.thr he0 (by omega) (by decide)) (by decide) (by rw [shU]; exact lU.l100) (by rw [shU]; exact smU) (by decide) ?_
    rw [shU, if_pos (show (fU a (-1) (-e)).d < 0 from show -e < 0 by omega), fx]
    exact r
  have nr2 : NR (f2m a e) := fx ▸ (kp_op _).nr (nr_ex nrU)
  have l2 : Lt60 (f2m a e) := l60_of (by omega) (by omega) (by omega) (by omega)
  have npm3 : (f2m a e).np (-3) = true := np_t (z := e * e * (e * e - 2 * (e * b) + 4 * (b * b))) (by rw [ea]; unfold f2m fAt; dsimp only; grind) (Int.mul_pos hee (by have := sq_nn (e - b); grind))
  have npm1 : (f2m a e).np (-1) = false := np_f (z := -(e * e * (27 * (e * e) + 6 * (b * e)))) (by rw [ea]; unfold f2m fAt; dsimp only; grind) (by
    have := Int.mul_pos hee (show 0 < 27 * (e * e) + 6 * (b * e) by omega)
    omega)
  have em2 : fAt (f2m a e).a (f2m a e).b (f2m a e).c (f2m a e).d ((f2m a e).a - (f2m a e).b - 2 * -2 * (f2m a e).a) (f2m a e).a = e * e * (2 * (b * b) + 4 * (b * e) - e * e) := by
    rw [ea]; unfold f2m fAt; dsimp only; grind
  by_cases c : 0 < 2 * (b * b) + 4 * (b * e) - e * e
  · -- s = -2
    have t2 : Thr (f2m a e) (-2) := thr_2m he hb ea (by decide) (by decide) (np_t em2 (Int.mul_pos hee c)) npm1
    have eq2 : fSh (f2m a e) (-2) = ⟨e, 3 * e + b, 3 * e - b, e + b⟩ := by
      rw [ea]; unfold fSh f2m; apply fo_ext <;> dsimp only <;> omega
    have l3 : Lt60 ⟨e, 3 * e + b, 3 * e - b, e + b⟩ := l60_of (by omega) (by omega) (by omega) (by omega)
    have fx4 : fEx ⟨e, 3 * e + b, 3 * e - b, e + b⟩ = f4m b e := by
      unfold fEx f4m; apply fo_ext <;> dsimp only <;> omega
    have st4 : ∀ g, Rn 1 (f4m b e) g → Rn 2 (f2m a e) g := fun g r => by
      refine rn_more (s := -2) he l2.l100 t2 (by decide) (by rw [eq2]; exact l3.l100) (by rw [eq2]; exact sm_f (z := -(3 * (b * e))) (by dsimp only; grind) (by omega)) (by decide) ?_
      rw [eq2, if_neg (by show ¬ e + b < 0; omega), fx4]
      exact r
    have nr4 : NR (f4m b e) := by
      have := nr_ex ((kp_sh _ (-2)).nr nr2)
      rwa [eq2, fx4] at this
    have l4 : Lt60 (f4m b e) := l60_of (by omega) (by omega) (by omega) (by omega)
    have mono : ∀ x y, x ≤ y → (f4m b e).np y = true → (f4m b e).np x = true := np_two (k := 9) (a := a) (b := b) (p1 := 1) (p2 := -1) (q1 := 2) (q2 := 1) (by decide) (by omega) (by omega) (by decide) (by decide) (show 0 < e + b by omega) (fun X Y => by
      rw [ea]; unfold Fo.at f4m fAt; dsimp only; grind)
    have hs : 0 < (e + b) * (e + b) := Int.mul_pos (by omega) (by omega)
    have np0 : (f4m b e).np 0 = true := np_t (z := 3 * (a * (e * ((e + b) * (e + b))))) (by rw [ea]; unfold f4m fAt; dsimp only; grind) (by
      have := Int.mul_pos ha (Int.mul_pos he hs)
      omega)
    have e1 : fAt (f4m b e).a (f4m b e).b (f4m b e).c (f4m b e).d ((f4m b e).a - (f4m b e).b - 2 * 1 * (f4m b e).a) (f4m b e).a = (e + b) * (e + b) * (e * e + 3 * (b * e) - 6 * (b * b)) := by
      unfold f4m fAt; dsimp only; grind
    by_cases c1 : 0 < e * e + 3 * (b * e) - 6 * (b * b)
    · have np1 : (f4m b e).np 1 = true := np_t e1 (Int.mul_pos hs c1)
      have np2 : (f4m b e).np 2 = false := by
        unfold Fo.np
        refine decide_eq_false fun k => ?_
        have k9 := mul_lt (show (0 : Int) < 9 by decide) k
        rw [show 9 * fAt (f4m b e).a (f4m b e).b (f4m b e).c (f4m b e).d ((f4m b e).a - (f4m b e).b - 2 * 2 * (f4m b e).a) (f4m b e).a = b * ((e - 7 * b) * (e - 7 * b) * (e - 7 * b)) - a * ((e + 5 * b) * (e + 5 * b) * (e + 5 * b)) by rw [ea]; unfold f4m fAt; dsimp only; grind] at k9
        have q1 := mul_le (show 0 ≤ b by omega) (cu_mono (show e - 7 * b ≤ e + 5 * b by omega))
        have q2 : 0 < (e + 5 * b) * (e + 5 * b) * (e + 5 * b) := Int.mul_pos (Int.mul_pos (by omega) (by omega)) (by omega)
        have q3 := Int.mul_pos (show 0 < a - b by omega) q2
        rw [Int.sub_mul] at q3
        omega
      have r5 : Rn 1 (f4m b e) ⟨e + b, 4 * b, 6 * b, 3 * b⟩ := rn_fin (s := 1) (show 0 < e + b by omega) nr4 l4 mono np1 np2 (by decide) (by unfold fSh f4m; apply fo_ext <;> dsimp only <;> omega) (l60_of (by omega) (by omega) (by omega) (by omega)) (sm_t (z := 2 * (b * b) + 4 * (b * e) - e * e) (by dsimp only; grind) c)
      refine ⟨_, (st4 _ r5).up (by decide), step, st4 _ r5, show 0 < e + b by omega, ?_, l60_of (by omega) (by omega) (by omega) (by omega), fun _ k => absurd c1 (by omega)⟩
      dsimp only
      rw [show 4 * b * (4 * b) - 3 * ((e + b) * (6 * b)) = -(2 * (b * b) + 18 * (b * e)) by grind]
      omega
    · have np1 : (f4m b e).np (0 + 1) = false := np_f e1 (fun k => c1 (pos_of_mul hs k))
      have r5 : Rn 1 (f4m b e) (f4m b e) := rn_fin (s := 0) (show 0 < e + b by omega) nr4 l4 mono np0 np1 (by decide) (fSh_zero _) l4 (sm_t (z := 3 * (b * e)) (by unfold f4m; dsimp only; grind) (by omega))
      refine ⟨_, (st4 _ r5).up (by decide), step, st4 _ r5, show 0 < e + b by omega, ?_, l4, fun _ _ => rfl⟩
      unfold f4m; dsimp only
      rw [show (b - 3 * e) * (b - 3 * e) - 3 * ((e + b) * (3 * e + b)) = -(2 * (b * b) + 18 * (b * e)) by grind]
      omega
  · -- s = -3
    have npm2 : (f2m a e).np (-3 + 1) = false := np_f em2 (fun k => c (pos_of_mul hee k))
    have t3 : Thr (f2m a e) (-3) := thr_2m he hb ea (by decide) (by decide) npm3 npm2
    have c0 : 0 < e * e - 4 * (b * e) - 2 * (b * b) := by
      rcases Int.lt_trichotomy (e * e - 4 * (b * e) - 2 * (b * b)) 0 with q | q | q
      · omega
      · have nz := nr2 _ _ (show (f2m a e).at ((f2m a e).a - (f2m a e).b - 2 * -2 * (f2m a e).a) (f2m a e).a = 0 from em2.trans (by rw [show 2 * (b * b) + 4 * (b * e) - e * e = 0 by omega, Int.mul_zero]))
        have : e = 0 := nz.2
        omega
      · exact q
    have heb : b < e := by
      rcases Int.lt_or_le b e with q | q
      · exact q
      · have := Int.mul_le_mul_of_nonneg_right q (show 0 ≤ e by omega)
        omega
    have eq3 : fSh (f2m a e) (-3) = ⟨e, b, -(3 * b), 3 * b⟩ := by
      rw [ea]; unfold fSh f2m; apply fo_ext <;> dsimp only <;> omega
    have l3 : Lt60 ⟨e, b, -(3 * b), 3 * b⟩ := l60_of (by omega) (by omega) (by omega) (by omega)
    have fx4 : fEx ⟨e, b, -(3 * b), 3 * b⟩ = fU b 1 (-e) := by
      unfold fEx fU; apply fo_ext <;> dsimp only <;> omega
    have st4 : ∀ g, Rn 1 (fU b 1 (-e)) g → Rn 2 (f2m a e) g := fun g r => by
      refine rn_more (s := -3) he l2.l100 t3 (by decide) (by rw [eq3]; exact l3.l100) (by rw [eq3]; exact sm_f (z := 6 * (b * b) - 3 * (b * e) - e * e) (by dsimp only; grind) (by
        have : b * b ≤ b * e := mul_le (by omega) (by omega)
        omega)) (by decide) ?_
      rw [eq3, if_neg (by show ¬ 3 * b < 0; omega), fx4]
      exact r
    obtain ⟨s', m, _, ms⟩ := mi3_ex (x := 2) h3 h4 h1 h2 (.inr rfl) (fun X Y k => by
      have := nr Y X (by rw [at_S] at k ⊢; omega)
      exact this.symm)
    have ms := ms rfl
    have ms0 : 0 ≤ s' := by
      rcases Int.lt_or_le s' 0 with q | q
      · have : s' = -1 := by omega
        subst this
        have := m.hi
        omega
      · exact q
    generalize hq : 2 + 3 * s' = q at m
    obtain ⟨e', he'⟩ : ∃ e', b * q * q * q + a = 9 * e' := by
      refine ⟨e + b + 4 * (b * s') + 6 * (b * s' * s') + 3 * (b * s' * s' * s'), ?_⟩
      rw [ea, ← hq]; grind
    have smq : 0 < sU b a q := by
      by_cases q1 : q = 2
      · subst q1
        rw [show sU b a 2 = 81 * (e * e - 4 * (b * e) - 2 * (b * b)) by rw [ea]; unfold sU; grind]
        omega
      · exact sU_pos h3 h1 (by omega)
    have hb9 : b * 1 * 1 * 1 + -a = 9 * -e := by omega
    have last := m.rnn (nr_neg nr) hb9 he' (s := -s' - 1) (by omega) (.inl rfl) (by omega) smq
    refine ⟨_, (st4 _ last).up (by decide), step, st4 _ last, show 0 < 3 * b by omega, pU _ _ _, l60_neg (b := b) (m.l60 (by omega) he'), fun k _ => absurd k (by omega)⟩
end
end Fr
namespace Fr
theorem lea_U {a b x e : Int} (h : AB a b) (hn : ¬ (a = 1 ∧ b = 1)) (ha : a ≤ 1000000000000) (hb : b ≤ 1000000000000) (hx : x = 1 ∨ x = 2) (he : a * x * x * x + b = 9 * e) : ∃ g, Lea (fU a x e) g := by
  have h1 := h.a1
  have h2 := h.b1
  have nr := h.nrS hn
  have n3 := h.n3 hx he
  have fin : ∀ g, Rn 3 (fU a x e) g → 0 < g.a → g.b * g.b - 3 * (g.a * g.c) ≤ 0 → Lt60 g → ∃ g, Lea (fU a x e) g := fun g r k1 k2 k3 =>
    ⟨_, lea_of r (show 0 < 3 * a by omega) (pU _ _ _) (lt60_U h1 ha (.inr hx) (by rcases hx with rfl | rfl <;> omega) (by rcases hx with rfl | rfl <;> omega)) (nr_U he nr) k1 k2 k3⟩
  obtain ⟨s, m, m1, m2⟩ := mi3_ex h1 ha h2 hb hx nr
  by_cases c : 4 ≤ x + 3 * s
  · obtain ⟨e', he'⟩ : ∃ e', a * (x + 3 * s) * (x + 3 * s) * (x + 3 * s) + b = 9 * e' := ⟨e + a * s * x * x + 3 * (a * s * s * x) + 3 * (a * s * s * s), by grind⟩
    exact fin _ ((m.rn nr he he' rfl hx (by omega) (sU_pos h1 h2 c)).up (by decide)) (show 0 < 3 * a by omega) (pU _ _ _) (m.l60 (by omega) he')
  rcases hx with rfl | rfl
  · have m1 := m1 rfl
    have : s = 0 := by omega
    subst this
    obtain ⟨g, g1, g2, g3, g4⟩ := lea_p1 m he nr n3
    exact fin g g1 g2 g3 g4
  · have m2 := m2 rfl
    rcases (by omega : s = 0 ∨ s = -1) with rfl | rfl
    · obtain ⟨g, g1, g2, g3, g4⟩ := lea_p2 m he nr n3.1
      exact fin g g1 g2 g3 g4
    · obtain ⟨e1, _, _, _, g, _, st, r, g2, g3, g4, _⟩ := lea_pm m he nr n3.2
      exact fin g (st g r) g2 g3 g4
/-! ### the pair of an integer -/
theorem pow_ge {d : Int} (hd : 2 ≤ d) : ∀ t : Nat, 0 < t → d ≤ d ^ t
  | 0, h => by omega
  | 1, _ => by
    show d ≤ d ^ (0 + 1)
    rw [Int.pow_succ, Int.pow_zero]
    omega
  | t + 2, _ => by
    have := pow_ge hd (t + 1) (by omega)
    rw [Int.pow_succ]
    have := Int.mul_le_mul_of_nonneg_left (show 1 ≤ d by omega) (show 0 ≤ d ^ (t + 1) by omega)
    omega
/-- the state of the fold: x1 x2 is without squares, its primes are below d, and x1 x2 left is at most n -/
structure FoI (n left d : Int) (x : I3) : Prop where
  p1 : 1 ≤ x.2.1
  p2 : 1 ≤ x.2.2
  sq : ∀ l, Pri l → l * l ∣ x.2.1 * x.2.2 → False
  lt : ∀ l, Pri l → l ∣ x.2.1 * x.2.2 → l < d
  le : x.2.1 * x.2.2 * left ≤ n
theorem sq_step {m p : Int} (hp : Pri p) (sq : ∀ l, Pri l → l * l ∣ m → False) (np : ¬ p ∣ m) : ∀ l, Pri l → l * l ∣ m * p → False := by
  intro l hl h
  by_cases e : l = p
  · subst e
    obtain ⟨k, hk⟩ := h
    exact np ⟨k, Int.eq_of_mul_eq_mul_left (show l ≠ 0 by have := hl.two; omega) (by grind)⟩
  · have npl : ¬ l ∣ p := fun k => e (hl.eq hp k)
    have h1 : l ∣ m * p := Int.dvd_trans (Int.dvd_mul_right _ _) h
    rcases hl.mul h1 with q | q
    · obtain ⟨m', rfl⟩ := q
      obtain ⟨k, hk⟩ := h
      have : m' * p = l * k := Int.eq_of_mul_eq_mul_left (show l ≠ 0 by have := hl.two; omega) (by grind)
      rcases hl.mul ⟨k, this⟩ with q | q
      · exact sq l hl (Int.mul_dvd_mul_left l q)
      · exact npl q
    · exact npl q
theorem FoI.step {n left d : Int} {x : I3} (h : FoI n left d x) {p : Int} {t : Nat} {left' d' : Int} (hp : Pri p) (hdp : d ≤ p) (hd' : p < d') (ht : 0 < t) (hl : left = p ^ t * left') (hl1 : 1 ≤ left') : FoI n left' d' (ptU x (p, (t : Int))) := by
  obtain ⟨p1, p2, sq, lt, le⟩ := h
  have h2 := hp.two
  have np : ¬ p ∣ x.2.1 * x.2.2 := fun k => by
    have := lt p hp k
    omega
  have hpt := pow_ge h2 t ht
  have hm : 0 < x.2.1 * x.2.2 := Int.mul_pos (by omega) (by omega)
  have key : x.2.1 * x.2.2 * p * left' ≤ n := by
    have a1 : p * left' ≤ p ^ t * left' := Int.mul_le_mul_of_nonneg_right hpt (by omega)
    have a2 := mul_le (Int.le_of_lt hm) a1
    rw [← hl] at a2
    rw [Int.mul_assoc]
    omega
  have base : ∀ l, Pri l → l ∣ x.2.1 * x.2.2 * p → l < d' := fun l hl k => by
    rcases hl.mul k with q | q
    · have := lt l hl q
      omega
    · rw [hl.eq hp q]; exact hd'
  have key0 : x.2.1 * x.2.2 * left' ≤ n := by
    have a1 : x.2.1 * x.2.2 * 1 ≤ x.2.1 * x.2.2 * p := mul_le (Int.le_of_lt hm) (by omega)
    have a2 := Int.mul_le_mul_of_nonneg_right a1 (show 0 ≤ left' by omega)
    rw [Int.mul_one] at a2
    omega
  unfold ptU
  split
  · exact ⟨p1, p2, sq, fun l hl k => by have := lt l hl k; omega, key0⟩
  · split
    · refine ⟨?_, p2, ?_, ?_, ?_⟩
      · show 1 ≤ x.2.1 * p
        have : x.2.1 * 1 ≤ x.2.1 * p := mul_le (by omega) (by omega)
        omega
      · show ∀ l, Pri l → l * l ∣ x.2.1 * p * x.2.2 → False
        rw [show x.2.1 * p * x.2.2 = x.2.1 * x.2.2 * p by grind]
        exact sq_step hp sq np
      · show ∀ l, Pri l → l ∣ x.2.1 * p * x.2.2 → l < d'
        rw [show x.2.1 * p * x.2.2 = x.2.1 * x.2.2 * p by grind]
        exact base
      · show x.2.1 * p * x.2.2 * left' ≤ n
        rw [show x.2.1 * p * x.2.2 = x.2.1 * x.2.2 * p by grind]
        exact key
    · refine ⟨p1, ?_, ?_, ?_, ?_⟩
      · show 1 ≤ x.2.2 * p
        have : x.2.2 * 1 ≤ x.2.2 * p := mul_le (by omega) (by omega)
        omega
      · show ∀ l, Pri l → l * l ∣ x.2.1 * (x.2.2 * p) → False
        rw [← Int.mul_assoc]
        exact sq_step hp sq np
      · show ∀ l, Pri l → l ∣ x.2.1 * (x.2.2 * p) → l < d'
        rw [← Int.mul_assoc]
        exact base
      · show x.2.1 * (x.2.2 * p) * left' ≤ n
        rw [← Int.mul_assoc]
        exact key
theorem FoI.up {n left d d' : Int} {x : I3} (h : FoI n left d x) (k : d ≤ d') : FoI n left d' x := ⟨h.p1, h.p2, h.sq, fun l hl q => by have := h.lt l hl q; omega, h.le⟩
/-- no prime below d is in left -/
def Ro (left d : Int) : Prop := ∀ l, Pri l → l ∣ left → d ≤ l
theorem Ro.pri {left d : Int} (h : Ro left d) (h1 : 2 ≤ left) (h2 : left < d * d) (hd : 0 ≤ d) : Pri left := by
  refine ⟨h1, fun c c1 c2 c3 => ?_⟩
  obtain ⟨k, hk⟩ := c3
  have kp : 1 ≤ k := by
    rcases Int.lt_or_le k 1 with q | q
    · have := mul_le (show 0 ≤ c by omega) (show k ≤ 0 by omega)
      omega
    · exact q
  have k2 : 2 ≤ k := by
    rcases (by omega : k = 1 ∨ 2 ≤ k) with q | q
    · subst q; omega
    · exact q
  obtain ⟨p, hp, pd⟩ := pri_ex _ c c1 (Nat.le_refl _)
  obtain ⟨q, hq, qd⟩ := pri_ex _ k k2 (Nat.le_refl _)
  have e1 := h p hp (by rw [hk]; exact Int.dvd_trans pd (Int.dvd_mul_right _ _))
  have e2 := h q hq (by rw [hk]; exact Int.dvd_trans qd (Int.dvd_mul_left _ _))
  have e3 := Int.le_of_dvd (by omega) pd
  have e4 := Int.le_of_dvd (by omega) qd
  have := Int.mul_le_mul (show d ≤ c by omega) (show d ≤ k by omega) hd (by omega)
  omega
theorem Ro.dvd {left d left' : Int} (h : Ro left d) (k : left' ∣ left) : Ro left' d := fun l hl q => h l hl (Int.dvd_trans q k)
/-- d goes into left, and nothing below: d is a prime -/
theorem Ro.self {left d : Int} (h : Ro left d) (hd : 2 ≤ d) (k : d ∣ left) : Pri d := by
  refine ⟨hd, fun c c1 c2 c3 => ?_⟩
  obtain ⟨p, hp, pd⟩ := pri_ex _ c c1 (Nat.le_refl _)
  have := h p hp (Int.dvd_trans pd (Int.dvd_trans c3 k))
  have := Int.le_of_dvd (by omega) pd
  omega
theorem Ro.succ {left d : Int} (h : Ro left d) (nd : ¬ d ∣ left) : Ro left (d + 1) := fun l hl k => by
  have := h l hl k
  by_cases e : l = d
  · subst e; exact absurd k nd
  · omega
theorem fold_app {acc : List (Int × Int)} {p t : Int} : (acc ++ [(p, t)]).foldl ptU (1, 1, 1) = ptU (acc.foldl ptU (1, 1, 1)) (p, t) := by
  rw [List.foldl_append]; rfl
theorem finL_ok {n left d : Int} {acc : List (Int × Int)} (h : FoI n left d (acc.foldl ptU (1, 1, 1))) (r : Ro left d) (hl : 1 ≤ left) (hd : 0 ≤ d) (h2 : left < d * d) : ∃ d', FoI n 1 d' ((finL acc left).foldl ptU (1, 1, 1)) := by
  unfold finL
  split
  · have hp := r.pri (by omega) h2 hd
    refine ⟨left + 1, ?_⟩
    rw [fold_app]
    exact h.step (t := 1) hp (r left hp (Int.dvd_refl _)) (by omega) (by decide) (by rw [show (1 : Nat) = 0 + 1 from rfl, Int.pow_succ, Int.pow_zero]; omega) (Int.le_refl _)
  · have : left = 1 := by omega
    subst this
    exact ⟨d, h⟩
theorem tk_t {left d : Int} (h1 : 1 ≤ left) (hd : 2 ≤ d) (k : left % d = 0) : 0 < (tk left d).1 := by
  have := tk_spec h1 hd
  rcases Nat.eq_zero_or_pos (tk left d).1 with q | q
  · have e := this.eq
    rw [q, Int.pow_zero, Int.one_mul] at e
    exact absurd (e ▸ k) this.nd
  · exact q
theorem tk_dvd {left d : Int} (h1 : 1 ≤ left) (hd : 2 ≤ d) : (tk left d).2 ∣ left := ⟨d ^ (tk left d).1, by rw [Int.mul_comm]; exact (tk_spec h1 hd).eq⟩
theorem tk_nd {left d : Int} (h1 : 1 ≤ left) (hd : 2 ≤ d) : ¬ d ∣ (tk left d).2 := fun k => (tk_spec h1 hd).nd (Int.emod_eq_zero_of_dvd k)
theorem facM_ok {n : Int} : ∀ (z : Nat) (left d s : Int) (acc : List (Int × Int)), FoI n left d (acc.foldl ptU (1, 1, 1)) → Ro left d → 1 ≤ left → left ≤ 1000000000000 → 5 ≤ d → 1000001 ≤ d + z → ((s = 2 ∧ d % 6 = 5) ∨ (s = 4 ∧ d % 6 = 1)) → ¬ (2 : Int) ∣ left → ¬ (3 : Int) ∣ left → ∃ d', FoI n 1 d' ((facM z left d s acc).foldl ptU (1, 1, 1))
  | 0, left, d, s, acc, h, r, l1, l2, hd, hz, _, _, _ => by
    rw [facM]
    have : 1000001 * 1000001 ≤ d * d := Int.mul_le_mul (by omega) (by omega) (by decide) (by omega)
    exact finL_ok h r l1 (by omega) (by omega)
  | z + 1, left, d, s, acc, h, r, l1, l2, hd, hz, hs, n2, n3 => by
    rw [facM]
    have jump : ∀ left', left' ∣ left → ¬ d ∣ left' → Ro left' (d + s) := fun left' k nd l hl q => by
      have a1 := r l hl (Int.dvd_trans q k)
      have a2 : l % 2 ≠ 0 := fun c => by
        have := pri2.eq hl (Int.dvd_of_emod_eq_zero c)
        omega
      have a3 : l % 3 ≠ 0 := fun c => by
        have := pri3.eq hl (Int.dvd_of_emod_eq_zero c)
        omega
      have a4 : l ≠ d := fun c => nd (c ▸ q)
      omega
    split
    · split
      · rename_i h1 h2
        have dd := Int.dvd_of_emod_eq_zero h2
        have hp := r.self (by omega) dd
        have tp := tk_t l1 (show 2 ≤ d by omega) h2
        have td := tk_dvd l1 (show 2 ≤ d by omega)
        have tn := tk_nd l1 (show 2 ≤ d by omega)
        have p := tk_pos l1 (show 2 ≤ d by omega)
        refine facM_ok z _ _ _ _ ?_ (jump _ td tn) p.1 (by omega) (by omega) (by omega) (by omega) (fun k => n2 (Int.dvd_trans k td)) (fun k => n3 (Int.dvd_trans k td))
        rw [fold_app]
        exact (h.step hp (Int.le_refl _) (Int.lt_succ d) tp (tk_spec l1 (by omega)).eq p.1).up (by omega)
      · rename_i h1 h2
        have nd : ¬ d ∣ left := fun k => h2 (Int.emod_eq_zero_of_dvd k)
        exact facM_ok z _ _ _ _ (h.up (by omega)) (jump _ (Int.dvd_refl _) nd) l1 l2 (by omega) (by omega) (by omega) n2 n3
    · rename_i h1
      exact finL_ok h r l1 (by omega) (by omega)
theorem stepA_ok {n left d : Int} {acc : List (Int × Int)} (h : FoI n left d (acc.foldl ptU (1, 1, 1))) (hd : Pri d) (l1 : 1 ≤ left) : FoI n (tk left d).2 (d + 1) ((stepA acc left d).foldl ptU (1, 1, 1)) := by
  have sp := tk_spec l1 hd.two
  have p := tk_pos l1 hd.two
  unfold stepA
  split
  · rw [fold_app]
    exact h.step hd (Int.le_refl _) (by omega) (by omega) sp.eq p.1
  · have e := sp.eq
    have t0 : (tk left d).1 = 0 := by omega
    rw [t0, Int.pow_zero, Int.one_mul] at e
    rw [← e]
    exact h.up (by omega)
theorem ptS_ok {n : Int} (h1 : 1 ≤ n) (h2 : n ≤ 1000000000000) : ∃ d, FoI n 1 d (ptS n) := by
  have p2 := tk_pos h1 (show (2 : Int) ≤ 2 by decide)
  have p3 := tk_pos p2.1 (show (2 : Int) ≤ 3 by decide)
  have d2 := tk_dvd h1 (show (2 : Int) ≤ 2 by decide)
  have d3 := tk_dvd p2.1 (show (2 : Int) ≤ 3 by decide)
  have n2 := tk_nd h1 (show (2 : Int) ≤ 2 by decide)
  have n3 := tk_nd p2.1 (show (2 : Int) ≤ 3 by decide)
  have i0 : FoI n n 2 (([] : List (Int × Int)).foldl ptU (1, 1, 1)) := ⟨by show (1 : Int) ≤ 1; decide, by show (1 : Int) ≤ 1; decide, fun l hl k => hl.ne1 (Int.dvd_trans (Int.dvd_mul_right _ _) k), fun l hl k => absurd k hl.ne1, by show 1 * 1 * n ≤ n; omega⟩
  have i1 := stepA_ok i0 pri2 h1
  have i2 := stepA_ok i1 pri3 p2.1
  have m2 : ¬ (2 : Int) ∣ (tk (tk n 2).2 3).2 := fun k => n2 (Int.dvd_trans k d3)
  unfold ptS facL
  refine facM_ok _ _ _ _ _ (i2.up (show (3 : Int) + 1 ≤ 5 by decide)) (fun l hl k => ?_) p3.1 (by omega) (by decide) (by decide) (.inl ⟨rfl, by decide⟩) m2 n3
  have a1 := hl.two
  have a2 : l ≠ 2 := fun c => m2 (c ▸ k)
  have a3 : l ≠ 3 := fun c => n3 (c ▸ k)
  have a4 : l ≠ 4 := fun c => by
    subst c
    exact hl.no 2 (by decide) (by decide) (by decide)
  omega
theorem ab_pt {n : Int} (h1 : 1 ≤ n) (h2 : n ≤ 1000000000000) : AB (ptA n) (ptB n) ∧ ptA n ≤ 1000000000000 ∧ ptB n ≤ 1000000000000 := by
  obtain ⟨d, p1, p2, sq, lt, le⟩ := ptS_ok h1 h2
  have e1 : (ptS n).2.1 = ptA n := rfl
  have e2 : (ptS n).2.2 = ptB n := rfl
  have p1 : 1 ≤ ptA n := p1
  have p2 : 1 ≤ ptB n := p2
  have sq : ∀ l, Pri l → l * l ∣ ptA n * ptB n → False := sq
  have le : ptA n * ptB n * 1 ≤ n := le
  have c1 : ptA n * 1 ≤ ptA n * ptB n := mul_le (by omega) p2
  have c2 : ptB n * 1 ≤ ptB n * ptA n := mul_le (by omega) p1
  rw [Int.mul_comm (ptB n) (ptA n)] at c2
  refine ⟨⟨p1, p2, fun p hp k1 k2 => sq p hp (Int.mul_dvd_mul k1 k2), fun p hp k => sq p hp (Int.dvd_trans k (Int.dvd_mul_right _ _)), fun p hp k => sq p hp (Int.dvd_trans k (Int.dvd_mul_left _ _))⟩, by omega, by omega⟩
end Fr
namespace Fr
/-! ### the bars -/
theorem bar_non {f : Fo} {p : Int} (c : CT p f) (h : NH p f) (hp : 2 ≤ p) : barD f p = .non := by
  unfold barD
  rw [if_neg (by rw [c.div]; decide), h.find hp]
theorem first_non {f : Fo} {ps : List Int} (h : ∀ p ∈ ps, barD f p = .non) : firstBar f ps = .non := by
  unfold firstBar
  rw [List.find?_eq_none.mpr fun d hd => ?_]
  obtain ⟨p, hp, rfl⟩ := List.mem_map.mp hd
  rw [h p hp]
  decide
theorem dpM_pri : ∀ (z : Nat) (n p : Int) (acc : List Int), (∀ q ∈ acc, Pri q) → Ro n p → 1 ≤ n → 2 ≤ p → ∀ q ∈ dpM z n p acc, Pri q
  | 0, _, _, _, h, _, _, _ => h
  | z + 1, n, p, acc, h, r, h1, hp => by
    rw [dpM]
    split
    · split
      · rename_i h2 h3
        have pp := r.self hp (Int.dvd_of_emod_eq_zero h3)
        have td := tk_dvd h1 hp
        refine dpM_pri z _ _ _ ?_ ((r.dvd td).succ (tk_nd h1 hp)) (tk_pos h1 hp).1 (by omega)
        split
        · intro q hq
          rcases List.mem_append.mp hq with k | k
          · exact h q k
          · rw [List.mem_singleton.mp k]; exact pp
        · exact h
      · rename_i h2 h3
        exact dpM_pri z _ _ _ h (r.succ fun k => h3 (Int.emod_eq_zero_of_dvd k)) h1 (by omega)
    · exact h
theorem dpL_pri {n : Int} (h : 1 ≤ n) : ∀ q ∈ dpL n, Pri q := dpM_pri _ _ _ _ (fun _ h => by simp at h) (fun l hl _ => hl.two) h (by decide)
theorem dpM_app : ∀ (z : Nat) (n p : Int) (acc : List Int), ∃ r, dpM z n p acc = acc ++ r
  | 0, _, _, acc => ⟨[], by rw [dpM, List.append_nil]⟩
  | z + 1, n, p, acc => by
    rw [dpM]
    split
    · split
      · obtain ⟨r, hr⟩ := dpM_app z (tk n p).2 (p + 1) (if 1 < ((tk n p).1 : Int) then acc ++ [p] else acc)
        rw [hr]
        split
        · exact ⟨p :: r, by rw [List.append_assoc]; rfl⟩
        · exact ⟨r, rfl⟩
      · exact dpM_app z n (p + 1) acc
    · exact ⟨[], by rw [List.append_nil]⟩
theorem dvd27 : ∀ (t : Nat) (m : Int), (27 : Int) ∣ 2 ^ t * m → (27 : Int) ∣ m
  | 0, m, h => by rwa [Int.pow_zero, Int.one_mul] at h
  | t + 1, m, h => by
    refine dvd27 t m ?_
    rw [Int.pow_succ, Int.mul_comm _ 2, Int.mul_assoc] at h
    generalize 2 ^ t * m = y at *
    omega
theorem dpM3 (z : Nat) {n : Int} {acc : List Int} (h1 : 1 ≤ n) (h27 : (27 : Int) ∣ n) : ∃ r, dpM (z + 1) n 3 acc = acc ++ 3 :: r := by
  have hle := Int.le_of_dvd (by omega) h27
  have sp := tk_spec h1 (show (2 : Int) ≤ 3 by decide)
  have ht : 1 < ((tk n 3).1 : Int) := by
    have e := sp.eq
    have nd := sp.nd
    rcases (by omega : (tk n 3).1 = 0 ∨ (tk n 3).1 = 1 ∨ 1 < ((tk n 3).1 : Int)) with q | q | q
    · rw [q, Int.pow_zero, Int.one_mul] at e
      omega
    · rw [q, show (1 : Nat) = 0 + 1 from rfl, Int.pow_succ, Int.pow_zero] at e
      omega
    · exact q
  rw [dpM, if_pos (by omega), if_pos (by omega), if_pos ht]
  obtain ⟨r, hr⟩ := dpM_app z (tk n 3).2 (3 + 1) (acc ++ [3])
  exact ⟨r, by rw [hr, List.append_assoc]; rfl⟩
theorem dpL3 {n : Int} (h1 : 1 ≤ n) (h27 : (27 : Int) ∣ n) : ∃ p r, (p = [] ∨ p = [2]) ∧ dpL n = p ++ 3 :: r := by
  have hle := Int.le_of_dvd (by omega) h27
  show ∃ p r, (p = [] ∨ p = [2]) ∧ dpM (9998 + 1 + 1) n 2 [] = p ++ 3 :: r
  rw [dpM, if_pos (by omega)]
  split
  · have sp := tk_spec h1 (show (2 : Int) ≤ 2 by decide)
    have k := dvd27 _ _ (sp.eq ▸ h27)
    have p1 := (tk_pos h1 (show (2 : Int) ≤ 2 by decide)).1
    split
    · obtain ⟨r, hr⟩ := dpM3 9998 (acc := [] ++ [2]) p1 k
      exact ⟨[2], r, .inr rfl, hr⟩
    · obtain ⟨r, hr⟩ := dpM3 9998 (acc := []) p1 k
      exact ⟨[], r, .inl rfl, hr⟩
  · obtain ⟨r, hr⟩ := dpM3 9998 (acc := []) h1 h27
    exact ⟨[], r, .inl rfl, hr⟩
theorem all_non {f : Fo} {n : Int} (h1 : 1 ≤ n) (c : ∀ l, Pri l → CT l f) (h : ∀ l, Pri l → NH l f) : firstBar f (dpL n) = .non :=
  first_non fun p hp => bar_non (c p (dpL_pri h1 p hp)) (h p (dpL_pri h1 p hp)) (dpL_pri h1 p hp).two
theorem barP_eq {f : Fo} (h : f.disc < 0) : barP f = dpL (-f.disc) := by unfold barP; rw [if_pos h]
/-! ### heavy places of (a, 0, 0, b) -/
theorem heavy_S {a b : Int} : (heavyB (fS a b) 3 (0, 1) = decide (b % 9 = 0)) ∧ (heavyB (fS a b) 3 (1, 0) = decide (a % 9 = 0)) ∧ (heavyB (fS a b) 3 (1, 1) = decide ((a + b) % 9 = 0)) ∧ (heavyB (fS a b) 3 (2, 1) = decide ((8 * a + b) % 9 = 0)) := by
  have q : ∀ {c d : Prop} [Decidable c] [Decidable d] {p : Prop} [Decidable p], (c ∧ d ↔ p) → (decide c && decide d) = decide p := fun h => by
    rw [← Bool.decide_and]
    exact decide_eq_decide.mpr h
  refine ⟨?_, ?_, ?_, ?_⟩ <;> unfold heavyB fS Fo.slope fAt <;> dsimp only <;> apply q
  · rw [if_neg (by simp)]; omega
  · rw [if_pos rfl]; omega
  · rw [if_neg (by simp)]; omega
  · rw [if_neg (by simp)]; omega
theorem plL3 : plL 3 = [(0, 1), (1, 0), (1, 1), (2, 1)] := rfl
theorem heavy_at {a b x e : Int} (h : AB a b) (hx : x = 1 ∨ x = 2) (he : a * x * x * x + b = 9 * e) : heavyB (fS a b) 3 (x, 1) = true ∧ (plL 3).filter (heavyB (fS a b) 3) = [(x, 1)] ∧ (plL 3).find? (heavyB (fS a b) 3) = some (x, 1) := by
  obtain ⟨n1, n2⟩ := h.n3 hx he
  obtain ⟨e1, e2, e3, e4⟩ := heavy_S (a := a) (b := b)
  rw [decide_eq_false (by omega)] at e1 e2
  rcases hx with rfl | rfl
  · rw [decide_eq_true (by omega)] at e3
    rw [decide_eq_false (by omega)] at e4
    rw [plL3, List.filter_cons, List.filter_cons, List.filter_cons, List.filter_cons, List.find?_cons, List.find?_cons, List.find?_cons, e1, e2, e3, e4]
    exact ⟨rfl, rfl, rfl⟩
  · rw [decide_eq_false (by omega)] at e3
    rw [decide_eq_true (by omega)] at e4
    rw [plL3, List.filter_cons, List.filter_cons, List.filter_cons, List.filter_cons, List.find?_cons, List.find?_cons, List.find?_cons, List.find?_cons, e1, e2, e3, e4]
    exact ⟨rfl, rfl, rfl⟩
theorem bar_at3 {a b x e : Int} (h : AB a b) (hx : x = 1 ∨ x = 2) (he : a * x * x * x + b = 9 * e) : barD (fS a b) 3 = placeD x := by
  unfold barD
  rw [if_neg (by rw [(h.ctS pri3).div]; decide), show (3 : Int).toNat = 3 from rfl, (heavy_at h hx he).2.2]
  rfl
theorem first_place {f : Fo} {p r : List Int} {x : Int} (hp : ∀ q ∈ p, barD f q = .non) (h3 : barD f 3 = placeD x) : firstBar f (p ++ 3 :: r) = placeD x := by
  unfold firstBar
  rw [List.map_append, List.find?_append, List.find?_eq_none.mpr fun d hd => ?_, List.map_cons, List.find?_cons, h3]
  · rfl
  · obtain ⟨q, hq, rfl⟩ := List.mem_map.mp hd
    rw [hp q hq]
    decide
theorem bar_S {a b x e : Int} (h : AB a b) (hx : x = 1 ∨ x = 2) (he : a * x * x * x + b = 9 * e) (hd : (fS a b).disc < 0) : firstBar (fS a b) (barP (fS a b)) = placeD x := by
  rw [barP_eq hd]
  obtain ⟨p, r, hp, hr⟩ := dpL3 (n := -(fS a b).disc) (by omega) ⟨a * a * (b * b), by rw [disc_S]; omega⟩
  rw [hr]
  refine first_place (fun q hq => ?_) (bar_at3 h hx he)
  rcases hp with rfl | rfl
  · simp at hq
  · rw [List.mem_singleton.mp hq]
    exact bar_non (h.ctS pri2) (h.nhS pri2 (.inl (by decide))) (by decide)
/-! ### all is right -/
theorem sq_pos {a b : Int} (h : AB a b) : 0 < a * a * (b * b) := by
  have h1 := h.a1
  have h2 := h.b1
  exact Int.mul_pos (Int.mul_pos (by omega) (by omega)) (Int.mul_pos (by omega) (by omega))
theorem sizes_S {a b : Int} (h : AB a b) (ha : a ≤ 1000000000000) (hb : b ≤ 1000000000000) : Lt60 (fS a b) := by
  have h1 := h.a1
  have h2 := h.b1
  exact lt60_S h1 ha (by omega) hb
theorem Lt60.in60 {f : Fo} (h : Lt60 f) : In60 f := ⟨Nat.lt_of_lt_of_le h.a (by decide), Nat.lt_of_lt_of_le h.b (by decide), Nat.lt_of_lt_of_le h.c (by decide), Nat.lt_of_lt_of_le h.d (by decide)⟩
theorem right_split {n x e : Int} {g : Fo} (h1 : 2 ≤ n) (h2 : n ≤ 1000000000000) (h : AB (ptA n) (ptB n)) (ha : ptA n ≤ 1000000000000) (hb : ptB n ≤ 1000000000000) (hx : x = 1 ∨ x = 2) (he : ptA n * x * x * x + ptB n = 9 * e)
    (ld : ∃ m, LeadR (fU (ptA n) x e) g m) (sf : ∃ m, LeadR g g m) (l60 : Lt60 g) (dg : g.disc = -3 * (ptA n * ptA n * (ptB n * ptB n))) (g3 : (plL 3).filter (heavyB g 3) = []) (g2 : (plL 2).filter (heavyB g 2) = []) (gb : firstBar g (barP g) = .non) : RightN n g 3 x := by
  have ls := sizes_S h ha hb
  obtain ⟨q1, q2, q3⟩ := heavy_at h hx he
  have n3 := h.n3 hx he
  have sp := sq_pos h
  have a1 := h.a1
  have b1 := h.b1
  have hpe : hpx (ptA n) (ptB n) = x := by
    unfold hpx
    rcases hx with rfl | rfl
    · rw [if_neg (by omega), if_pos (by omega)]
    · rw [if_pos (by omega)]
  have ds : (stF n).disc = -27 * (ptA n * ptA n * (ptB n * ptB n)) := disc_S _ _
  have up : (stF n).up x = fU (ptA n) x e := up_S he
  have lu : Lt60 (fU (ptA n) x e) := lt60_U a1 ha (.inr hx) (by rcases hx with rfl | rfl <;> omega) (by rcases hx with rfl | rfl <;> omega)
  have du := disc_U he
  have fb : firstBar (stF n) (barP (stF n)) = placeD x := bar_S h hx he (show (stF n).disc < 0 by omega)
  refine ⟨⟨h1, h2, ls.in20, ls.in60, ls.sm, .inr ?_⟩, hpe, .inl ⟨rfl, hx, ?_⟩, by omega, by omega, l60.sm, l60.in20, by omega, sf, ?_, ?_, g3, g2, fun _ => ?_⟩
  · rw [hpe, up]
    exact ⟨hx, rfl, q1, lu.in20, by omega, ld⟩
  · rcases hx with rfl | rfl
    · rw [show ptA n * ptA n - ptB n * ptB n = 9 * (e * (ptA n - ptB n)) by grind]; omega
    · rw [show ptA n * ptA n - ptB n * ptB n = 9 * ((ptA n - e) * (ptA n + ptB n)) by grind]; omega
  · rw [if_neg (by omega)]; exact q2
  · exact (h.nhS pri2 (.inl (by decide))).filter (by decide)
  · obtain ⟨m, ld⟩ := ld
    refine ⟨[aboveD x], (stF n).up x, m, .inr ⟨x, hx, fb, by rw [up]; exact lu.sm, ?_, rfl, rfl⟩, by rw [up]; exact lu.sm, by rw [up]; omega, by rw [up]; exact ld, rfl, gb, ?_⟩
    · rw [up, barP_eq (by omega)]
      exact all_non (by omega) (fun l hl => h.ctU hx he hl) fun l hl => h.nhU hx he hl
    · rw [fb, decide_eq_false (by omega)]
      rfl
theorem bar_of {g : Fo} (hd : g.disc < 0) (c : ∀ l, Pri l → CT l g) (h : ∀ l, Pri l → NH l g) : firstBar g (barP g) = .non := by
  rw [barP_eq hd]
  exact all_non (by omega) c h
theorem all_right : AllRight := by
  intro n h1 h2
  obtain ⟨h, ha, hb⟩ := ab_pt (show 1 ≤ n by omega) h2
  have sp := sq_pos h
  have a1 := h.a1
  have b1 := h.b1
  have ls := sizes_S h ha hb
  by_cases cu : ptA n = 1 ∧ ptB n = 1
  · -- a cube
    have he : ptA n * 2 * 2 * 2 + ptB n = 9 * 1 := by rw [cu.1, cu.2]; decide
    have eu : fU (ptA n) 2 1 = ⟨3, 6, 4, 1⟩ := by rw [cu.1]; rfl
    refine ⟨⟨0, 1, 1, 1⟩, 3, 2, right_split h1 h2 h ha hb (.inr rfl) he (by rw [eu]; exact ⟨_, .root .a⟩) ⟨_, .root .b⟩ ⟨by decide, by decide, by decide, by decide⟩ (by rw [cu.1, cu.2]; decide) (by decide) (by decide) ?_⟩
    rw [barP_eq (by decide)]
    refine first_non fun p hp => ?_
    have e : dpL (-(Fo.mk 0 1 1 1).disc) = [] := by
      show dpM (9999 + 1) 3 2 [] = []
      rw [dpM, if_neg (by decide)]
    rw [e] at hp
    simp at hp
  have split : ∀ x e, (x = 1 ∨ x = 2) → ptA n * x * x * x + ptB n = 9 * e → ∃ g i x, RightN n g i x := fun x e hx he => by
    obtain ⟨g, L⟩ := lea_U h cu ha hb hx he
    have dg : g.disc = -3 * (ptA n * ptA n * (ptB n * ptB n)) := L.kp.disc.trans (disc_U he)
    have nh : ∀ l, Pri l → NH l g := fun l hl => L.kp.nh l (h.nhU hx he hl)
    have ct : ∀ l, Pri l → CT l g := fun l hl => L.kp.ct l (h.ctU hx he hl)
    exact ⟨g, 3, x, right_split h1 h2 h ha hb hx he L.lead L.self L.l60 dg ((nh 3 pri3).filter (by decide)) ((nh 2 pri2).filter (by decide)) (bar_of (by omega) ct nh)⟩
  by_cases c2 : (ptA n - ptB n) % 9 = 0
  · exact split 2 (ptA n - (ptA n - ptB n) / 9) (.inr rfl) (by omega)
  by_cases c1 : (ptA n + ptB n) % 9 = 0
  · exact split 1 ((ptA n + ptB n) / 9) (.inl rfl) (by omega)
  -- not split
  obtain ⟨g, L⟩ := lea_S h cu ha hb
  have ds : (stF n).disc = -27 * (ptA n * ptA n * (ptB n * ptB n)) := disc_S _ _
  have nhs : ∀ l, Pri l → NH l (stF n) := fun l hl => h.nhS hl (.inr ⟨c2, c1⟩)
  have cts : ∀ l, Pri l → CT l (stF n) := fun l hl => h.ctS hl
  have nh : ∀ l, Pri l → NH l g := fun l hl => L.kp.nh l (nhs l hl)
  have ct : ∀ l, Pri l → CT l g := fun l hl => L.kp.ct l (cts l hl)
  have dg : g.disc = (stF n).disc := L.kp.disc
  have hpe : hpx (ptA n) (ptB n) = 0 := by
    unfold hpx
    rw [if_neg c2, if_neg c1]
  have n9 : (ptA n * ptA n - ptB n * ptB n) % 9 ≠ 0 := fun k => by
    have k : (9 : Int) ∣ (ptA n - ptB n) * (ptA n + ptB n) := by
      rw [show (ptA n - ptB n) * (ptA n + ptB n) = ptA n * ptA n - ptB n * ptB n by grind]
      exact Int.dvd_of_emod_eq_zero k
    have k3 : (3 : Int) ∣ (ptA n - ptB n) * (ptA n + ptB n) := Int.dvd_trans (by decide) k
    have nb : ¬ ((3 : Int) ∣ ptA n - ptB n ∧ (3 : Int) ∣ ptA n + ptB n) := fun ⟨k1, k2⟩ => h.co 3 pri3 (by omega) (by omega)
    obtain ⟨z, hz⟩ := k
    rcases pri3.mul k3 with q | q
    · obtain ⟨u, hu⟩ := q
      have : u * (ptA n + ptB n) = 3 * z := by
        rw [hu] at hz
        have : 3 * (u * (ptA n + ptB n)) = 3 * (3 * z) := by grind
        omega
      rcases pri3.mul ⟨_, this⟩ with r | r
      · omega
      · exact nb ⟨⟨u, hu⟩, r⟩
    · obtain ⟨u, hu⟩ := q
      have : (ptA n - ptB n) * u = 3 * z := by
        rw [hu] at hz
        have : 3 * ((ptA n - ptB n) * u) = 3 * (3 * z) := by grind
        omega
      rcases pri3.mul ⟨_, this⟩ with r | r
      · exact nb ⟨r, ⟨u, hu⟩⟩
      · omega
  have fb : firstBar (stF n) (barP (stF n)) = .non := bar_of (by omega) cts nhs
  refine ⟨g, 1, 0, ⟨⟨h1, h2, ls.in20, ls.in60, ls.sm, .inl ⟨hpe, rfl, by omega, L.lead⟩⟩, hpe, .inr ⟨rfl, rfl, n9⟩, by omega, by omega, L.l60.sm, L.l60.in20, by omega, L.self, ?_, (nhs 2 pri2).filter (by decide), (nh 3 pri3).filter (by decide), (nh 2 pri2).filter (by decide), fun _ => ?_⟩⟩
  · rw [if_pos rfl]; exact (nhs 3 pri3).filter (by decide)
  · obtain ⟨m, ld⟩ := L.lead
    exact ⟨[], stF n, m, .inl ⟨fb, rfl, rfl⟩, ls.sm, by omega, ld, rfl, bar_of (by omega) ct nh, by rw [fb]; rfl⟩
end Fr
namespace Fr
theorem tk_eq {n d m : Int} {t : Nat} (h1 : 1 ≤ n) (hd : 2 ≤ d) (h : TkO n d t m) : tk n d = (t, m) := by
  obtain ⟨e1, e2⟩ := h.uniq (tk_spec h1 hd) hd
  exact Prod.ext e1 e2
theorem facM_end {l d s : Int} {acc : List (Int × Int)} (h : ¬ d * d ≤ l) : facM 999996 l d s acc = finL acc l := by
  show facM (999995 + 1) l d s acc = _
  rw [facM, if_neg h]
theorem pt_2 : ptA 2 = 2 ∧ ptB 2 = 1 := by
  have e : facL 2 = [(2, 1)] := by
    unfold facL stepA
    rw [tk_eq (n := 2) (d := 2) (t := 1) (m := 1) (by decide) (by decide) ⟨by decide, by decide⟩]
    dsimp only
    rw [tk_eq (n := 1) (d := 3) (t := 0) (m := 1) (by decide) (by decide) ⟨by decide, by decide⟩]
    dsimp only
    rw [facM_end (by decide)]
    decide
  unfold ptA ptB ptS
  rw [e]
  decide
theorem pt_10 : ptA 10 = 10 ∧ ptB 10 = 1 := by
  have e : facL 10 = [(2, 1), (5, 1)] := by
    unfold facL stepA
    rw [tk_eq (n := 10) (d := 2) (t := 1) (m := 5) (by decide) (by decide) ⟨by decide, by decide⟩]
    dsimp only
    rw [tk_eq (n := 5) (d := 3) (t := 0) (m := 5) (by decide) (by decide) ⟨by decide, by decide⟩]
    dsimp only
    rw [facM_end (by decide)]
    decide
  unfold ptA ptB ptS
  rw [e]
  decide
theorem pt_12 : ptA 12 = 3 ∧ ptB 12 = 2 := by
  have e : facL 12 = [(2, 2), (3, 1)] := by
    unfold facL stepA
    rw [tk_eq (n := 12) (d := 2) (t := 2) (m := 3) (by decide) (by decide) ⟨by decide, by decide⟩]
    dsimp only
    rw [tk_eq (n := 3) (d := 3) (t := 1) (m := 1) (by decide) (by decide) ⟨by decide, by decide⟩]
    dsimp only
    rw [facM_end (by decide)]
    decide
  unfold ptA ptB ptS
  rw [e]
  decide
theorem st_2 : stF 2 = fS 2 1 := by unfold stF; rw [pt_2.1, pt_2.2]; rfl
theorem st_10 : stF 10 = fS 10 1 := by unfold stF; rw [pt_10.1, pt_10.2]; rfl
theorem st_12 : stF 12 = fS 3 2 := by unfold stF; rw [pt_12.1, pt_12.2]; rfl
theorem nr_pt {n : Int} (h1 : 1 ≤ n) (h2 : n ≤ 1000000000000) (hn : ¬ (ptA n = 1 ∧ ptB n = 1)) : NR (stF n) := (ab_pt h1 h2).1.nrS hn
theorem small3 : Small3 := by
  refine ⟨?_, ?_, ?_⟩
  · have nr := nr_pt (n := 2) (by decide) (by decide) (by rw [pt_2.1, pt_2.2]; decide)
    rw [st_2] at nr
    have L : Lea (fS 2 1) (fN 1 1 2) := lea_gt ⟨by decide, by decide, by decide, by decide, by decide⟩ nr
    have l : Lt60 (fS 2 1) := ⟨by decide, by decide, by decide, by decide⟩
    unfold ThrR
    rw [st_2, pt_2.1, pt_2.2]
    exact ⟨by decide, by decide, l.in20, l.in60, l.sm, .inl ⟨by decide, rfl, by decide, L.lead⟩⟩
  · have nr := nr_pt (n := 10) (by decide) (by decide) (by rw [pt_10.1, pt_10.2]; decide)
    rw [st_10] at nr
    have he : (10 : Int) * 2 * 2 * 2 + 1 = 9 * 9 := by decide
    obtain ⟨e, e1, e2, e3, g, _, st, r, g2, g3, g4, g5⟩ := lea_pm (a := 10) (b := 1) ⟨by decide, by decide, by decide, by decide, by decide, by decide⟩ he nr (by decide)
    have e9 : e = 1 := by omega
    subst e9
    have eg := g5 (by decide) (by decide)
    subst eg
    have lu : Lt60 (fU 10 2 9) := ⟨by decide, by decide, by decide, by decide⟩
    have L := lea_of (st _ r) (by decide) (pU _ _ _) lu (nr_U he nr) g2 g3 g4
    have ef : fFi (f4m 1 1) = ⟨2, 2, 4, 1⟩ := by
      unfold fFi
      rw [if_pos (by decide)]
      rfl
    rw [ef] at L
    have l : Lt60 (fS 10 1) := ⟨by decide, by decide, by decide, by decide⟩
    unfold ThrR
    rw [st_10, pt_10.1, pt_10.2]
    have hp : hpx 10 1 = 2 := by decide
    rw [hp, up_S he]
    exact ⟨by decide, by decide, l.in20, l.in60, l.sm, .inr ⟨.inr rfl, rfl, by decide, lu.in20, by decide, L.lead⟩⟩
  · have nr := nr_pt (n := 12) (by decide) (by decide) (by rw [pt_12.1, pt_12.2]; decide)
    rw [st_12] at nr
    have L : Lea (fS 3 2) (fN 2 1 3) := lea_gt ⟨by decide, by decide, by decide, by decide, by decide⟩ nr
    have l : Lt60 (fS 3 2) := ⟨by decide, by decide, by decide, by decide⟩
    unfold ThrR
    rw [st_12, pt_12.1, pt_12.2]
    exact ⟨by decide, by decide, l.in20, l.in60, l.sm, .inl ⟨by decide, rfl, by decide, L.lead⟩⟩
end Fr
namespace Fr
open PySem PySem.Spec PyProof.Rows L2 He
section
variable {T : Tx}
theorem rep_pa {a : Addr} {p q : Int} (h : paB T.K a p q = true) (H : Hp) : Rep T H (dP p q) (.ref a) := by
  unfold dP Rep
  refine ⟨a, _, rfl, tuA_ok h H, ?_⟩
  unfold Reps
  refine ⟨_, _, rfl, by unfold Rep; rfl, ?_⟩
  unfold Reps
  exact ⟨_, _, rfl, by unfold Rep; rfl, by unfold Reps; rfl⟩
theorem rep_mt {a : Addr} {p q r s : Int} (h : mtB T.K a p q r s = true) (H : Hp) : Rep T H (dM p q r s) (.ref a) := by
  obtain ⟨h1, h⟩ := ba h
  obtain ⟨h2, h3⟩ := ba h
  unfold dM Rep
  refine ⟨a, _, rfl, tuA_ok h1 H, ?_⟩
  unfold Reps
  refine ⟨_, _, rfl, rep_pa h2 H, ?_⟩
  unfold Reps
  exact ⟨_, _, rfl, rep_pa h3 H, by unfold Reps; rfl⟩
theorem cst_pa {x : Str} {p q : Int} (g : T.mg x = some (.ref (ga T.K x))) (h : paB T.K (ga T.K x) p q = true) : Cst T x (dP p q) := ⟨.ref _, _, g, rfl, rep_pa h⟩
theorem cst_mt {x : Str} {p q r s : Int} (g : T.mg x = some (.ref (ga T.K x))) (h : mtB T.K (ga T.K x) p q r s = true) : Cst T x (dM p q r s) := ⟨.ref _, _, g, rfl, rep_mt h⟩
theorem cst_int {x : Str} {i : Int} (g : ∃ t, T.mg x = some (.int i t)) : Cst T x (.int i) := by
  obtain ⟨t, g⟩ := g
  exact ⟨.int i, _, g, ⟨t, rfl⟩, fun H => by unfold Rep; rfl⟩
theorem cst_str {x z : Str} (g : ∃ t, T.mg x = some (.str z t)) : Cst T x (.str z) := by
  obtain ⟨t, g⟩ := g
  exact ⟨.str z, _, g, ⟨t, rfl⟩, fun H => by unfold Rep; rfl⟩
theorem funX_of {x qual : Str} {st : Stmt} {f : Addr} {fd : FuncData} (F : FunD T.K x qual (defArgs st) (defBody st) (defScope st) [] [] f fd) : FunX T x qual st f fd :=
  ⟨fun S len body => F.ok S len fun cdv A outer s H vs Q E hr hsp => by
    obtain ⟨t, h1, h2⟩ := body cdv A outer s H vs Q E trivial hr hsp
    exact ⟨t, PSs.nox h1, h2⟩, F.kp⟩
/-- how a def's parameters are bound -/
abbrev BindE (x qual : Str) (st : Stmt) (ps : List Str) : Prop := ∀ (kV doc pm : Value) (an : Option Addr) (cdv ct : Value) (us : List Value), us.length = ps.length → bindArgs (PySem.W.fnOf x qual (defArgs st) (defBody st) (defScope st) .none kV doc pm an cdv ct) ⟨us, []⟩ = pure (ps.zip us)
theorem df_of {x : Str} {st : Stmt} {ps : List Str} {f : Addr} (F : ∃ fd, FunD T.K x x (defArgs st) (defBody st) (defScope st) [] [] f fd) (hm : T.mg x = some (.ref f)) (hb : BindE x x st ps) : Df T x st ps := by
  obtain ⟨fd, F⟩ := F
  exact ⟨f, fd, funX_of F, hm, F.bindsN hb⟩
theorem dg_of {x : Str} {st : Stmt} {ps : List Str} (F : ∃ fd, FunD T.K x x (defArgs st) (defBody st) (defScope st) [] [] (fAd T.K (x, none)) fd) (hm : T.mg x = some (.ref (fAd T.K (x, none)))) (hb : BindE x x st ps) (tb : LamX.TabB T.base T.mg (cT T.K (x, none)).1 (cT T.K (x, none)).2) (hP : (cT T.K (x, none)).2 ∈ T.tabs) : DfG T x st ps := by
  obtain ⟨fd, F⟩ := F
  have hB := F.bindsN hb
  have kp := F.kp
  obtain ⟨oc, od, dV, kV, doc, pm, an, cdv, ct, osl, rfl, lk, hcd, _, _⟩ := F.ex
  obtain ⟨c, rfl⟩ := codeIn_ref hcd
  have ec : codeOf T.K (x, none) = c := codeOf_eq lk rfl
  refine ⟨_, _, c, (cT T.K (x, none)).2, ⟨fun S len body => fn_of lk hcd S len fun A outer s H vs Q E hr hsp => ?_, kp⟩, hm, hB, ?_, hP⟩
  · obtain ⟨t, h1, h2⟩ := body (.ref c) A outer s H vs Q E rfl hr hsp
    exact ⟨t, PSs.nox h1, h2⟩
  · obtain ⟨t1, t2, t3⟩ := tb
    have e1 : (cT T.K (x, none)).1 = c := ec
    rw [e1] at t1
    exact ⟨t1, t2, t3⟩
end
end Fr
namespace Fr
open PySem PySem.Spec PyProof.Rows L2 He
theorem be_is_whole : BindE "is_whole" "is_whole" s_is_whole P_is_whole := fun _ _ _ _ _ _ us hl => match us, hl with | [_], _ => rfl
theorem be_is_integer : BindE "is_integer" "is_integer" s_is_integer P_is_integer := fun _ _ _ _ _ _ us hl => match us, hl with | [_], _ => rfl
theorem be_is_within : BindE "is_within" "is_within" s_is_within P_is_within := fun _ _ _ _ _ _ us hl => match us, hl with | [_, _, _], _ => rfl
theorem be_require_within : BindE "require_within" "require_within" s_require_within P_require_within := fun _ _ _ _ _ _ us hl => match us, hl with | [_, _, _], _ => rfl
theorem be_common_of : BindE "common_of" "common_of" s_common_of P_common_of := fun _ _ _ _ _ _ us hl => match us, hl with | [_, _], _ => rfl
theorem be_is_prime_number : BindE "is_prime_number" "is_prime_number" s_is_prime_number P_is_prime_number := fun _ _ _ _ _ _ us hl => match us, hl with | [_], _ => rfl
theorem be_taken_out : BindE "taken_out" "taken_out" s_taken_out P_taken_out := fun _ _ _ _ _ _ us hl => match us, hl with | [_, _], _ => rfl
theorem be_factors_in : BindE "factors_in" "factors_in" s_factors_in P_factors_in := fun _ _ _ _ _ _ us hl => match us, hl with | [_], _ => rfl
theorem be_joined_in : BindE "joined_in" "joined_in" s_joined_in P_joined_in := fun _ _ _ _ _ _ us hl => match us, hl with | [_, _], _ => rfl
theorem be_are_integers : BindE "are_integers" "are_integers" s_are_integers P_are_integers := fun _ _ _ _ _ _ us hl => match us, hl with | [_, _], _ => rfl
theorem be_numbers_text : BindE "numbers_text" "numbers_text" s_numbers_text P_numbers_text := fun _ _ _ _ _ _ us hl => match us, hl with | [_], _ => rfl
theorem be_lowest_place : BindE "lowest_place" "lowest_place" s_lowest_place P_lowest_place := fun _ _ _ _ _ _ us hl => match us, hl with | [_, _], _ => rfl
theorem be_places_of_double : BindE "places_of_double" "places_of_double" s_places_of_double P_places_of_double := fun _ _ _ _ _ _ us hl => match us, hl with | [_], _ => rfl
theorem be_monic_at : BindE "monic_at" "monic_at" s_monic_at P_monic_at := fun _ _ _ _ _ _ us hl => match us, hl with | [_, _], _ => rfl
theorem be_bisected : BindE "bisected" "bisected" s_bisected P_bisected := fun _ _ _ _ _ _ us hl => match us, hl with | [_, _, _, _], _ => rfl
theorem be_monic_roots : BindE "monic_roots" "monic_roots" s_monic_roots P_monic_roots := fun _ _ _ _ _ _ us hl => match us, hl with | [_], _ => rfl
theorem be_places_of_cubic : BindE "places_of_cubic" "places_of_cubic" s_places_of_cubic P_places_of_cubic := fun _ _ _ _ _ _ us hl => match us, hl with | [_], _ => rfl
theorem be_form_at : BindE "form_at" "form_at" s_form_at P_form_at := fun _ _ _ _ _ _ us hl => match us, hl with | [_, _, _], _ => rfl
theorem be_form_led : BindE "form_led" "form_led" s_form_led P_form_led := fun _ _ _ _ _ _ us hl => match us, hl with | [_, _], _ => rfl
theorem be_discriminant_of : BindE "discriminant_of" "discriminant_of" s_discriminant_of P_discriminant_of := fun _ _ _ _ _ _ us hl => match us, hl with | [_], _ => rfl
theorem be_form_told : BindE "form_told" "form_told" s_form_told P_form_told := fun _ _ _ _ _ _ us hl => match us, hl with | [_], _ => rfl
theorem be_made_form : BindE "made_form" "made_form" s_made_form P_made_form := fun _ _ _ _ _ _ us hl => match us, hl with | [_], _ => rfl
theorem be_require_form : BindE "require_form" "require_form" s_require_form P_require_form := fun _ _ _ _ _ _ us hl => match us, hl with | [_], _ => rfl
theorem be_bezout : BindE "bezout" "bezout" s_bezout P_bezout := fun _ _ _ _ _ _ us hl => match us, hl with | [_, _], _ => rfl
theorem be_end_change : BindE "end_change" "end_change" s_end_change P_end_change := fun _ _ _ _ _ _ us hl => match us, hl with | [_], _ => rfl
theorem be_lead_with_root : BindE "lead_with_root" "lead_with_root" s_lead_with_root P_lead_with_root := fun _ _ _ _ _ _ us hl => match us, hl with | [_, _], _ => rfl
theorem be_is_small : BindE "is_small" "is_small" s_is_small P_is_small := fun _ _ _ _ _ _ us hl => match us, hl with | [_], _ => rfl
theorem be_is_between : BindE "is_between" "is_between" s_is_between P_is_between := fun _ _ _ _ _ _ us hl => match us, hl with | [_], _ => rfl
theorem be_is_not_past : BindE "is_not_past" "is_not_past" s_is_not_past P_is_not_past := fun _ _ _ _ _ _ us hl => match us, hl with | [_, _], _ => rfl
theorem be_best_shift : BindE "best_shift" "best_shift" s_best_shift P_best_shift := fun _ _ _ _ _ _ us hl => match us, hl with | [_], _ => rfl
theorem be_lead_without_root : BindE "lead_without_root" "lead_without_root" s_lead_without_root P_lead_without_root := fun _ _ _ _ _ _ us hl => match us, hl with | [_], _ => rfl
theorem be_led_below : BindE "led_below" "led_below" s_led_below P_led_below := fun _ _ _ _ _ _ us hl => match us, hl with | [_], _ => rfl
theorem be_least_of : BindE "least_of" "least_of" s_least_of P_least_of := fun _ _ _ _ _ _ us hl => match us, hl with | [_], _ => rfl
theorem be_least_row : BindE "least_row" "least_row" s_least_row P_least_row := fun _ _ _ _ _ _ us hl => match us, hl with | [_], _ => rfl
theorem be_least_made : BindE "least_made" "least_made" s_least_made P_least_made := fun _ _ _ _ _ _ us hl => match us, hl with | [_], _ => rfl
theorem be_require_short : BindE "require_short" "require_short" s_require_short P_require_short := fun _ _ _ _ _ _ us hl => match us, hl with | [_], _ => rfl
theorem be_is_least : BindE "is_least" "is_least" s_is_least P_is_least := fun _ _ _ _ _ _ us hl => match us, hl with | [_], _ => rfl
theorem be_least_form : BindE "least_form" "least_form" s_least_form P_least_form := fun _ _ _ _ _ _ us hl => match us, hl with | [_], _ => rfl
theorem be_is_small_prime : BindE "is_small_prime" "is_small_prime" s_is_small_prime P_is_small_prime := fun _ _ _ _ _ _ us hl => match us, hl with | [_], _ => rfl
theorem be_require_prime : BindE "require_prime" "require_prime" s_require_prime P_require_prime := fun _ _ _ _ _ _ us hl => match us, hl with | [_], _ => rfl
theorem be_places_at : BindE "places_at" "places_at" s_places_at P_places_at := fun _ _ _ _ _ _ us hl => match us, hl with | [_], _ => rfl
theorem be_is_place : BindE "is_place" "is_place" s_is_place P_is_place := fun _ _ _ _ _ _ us hl => match us, hl with | [_, _], _ => rfl
theorem be_slope_at : BindE "slope_at" "slope_at" s_slope_at P_slope_at := fun _ _ _ _ _ _ us hl => match us, hl with | [_, _], _ => rfl
theorem be_is_heavy : BindE "is_heavy" "is_heavy" s_is_heavy P_is_heavy := fun _ _ _ _ _ _ us hl => match us, hl with | [_, _, _], _ => rfl
theorem be_numbers_above : BindE "numbers_above" "numbers_above" s_numbers_above P_numbers_above := fun _ _ _ _ _ _ us hl => match us, hl with | [_, _, _], _ => rfl
theorem be_is_divided : BindE "is_divided" "is_divided" s_is_divided P_is_divided := fun _ _ _ _ _ _ us hl => match us, hl with | [_, _], _ => rfl
theorem be_heavy_places : BindE "heavy_places" "heavy_places" s_heavy_places P_heavy_places := fun _ _ _ _ _ _ us hl => match us, hl with | [_, _], _ => rfl
theorem be_above : BindE "above" "above" s_above P_above := fun _ _ _ _ _ _ us hl => match us, hl with | [_, _, _], _ => rfl
theorem be_require_stepped : BindE "require_stepped" "require_stepped" s_require_stepped P_require_stepped := fun _ _ _ _ _ _ us hl => match us, hl with | [_], _ => rfl
theorem be_double_primes : BindE "double_primes" "double_primes" s_double_primes P_double_primes := fun _ _ _ _ _ _ us hl => match us, hl with | [_], _ => rfl
theorem be_bar_at : BindE "bar_at" "bar_at" s_bar_at P_bar_at := fun _ _ _ _ _ _ us hl => match us, hl with | [_, _], _ => rfl
theorem be_first_bar : BindE "first_bar" "first_bar" s_first_bar P_first_bar := fun _ _ _ _ _ _ us hl => match us, hl with | [_, _], _ => rfl
theorem be_bar : BindE "bar" "bar" s_bar P_bar := fun _ _ _ _ _ _ us hl => match us, hl with | [_], _ => rfl
theorem be_is_greatest : BindE "is_greatest" "is_greatest" s_is_greatest P_is_greatest := fun _ _ _ _ _ _ us hl => match us, hl with | [_], _ => rfl
theorem be_step_of : BindE "step_of" "step_of" s_step_of P_step_of := fun _ _ _ _ _ _ us hl => match us, hl with | [_], _ => rfl
theorem be_numbers_behind : BindE "numbers_behind" "numbers_behind" s_numbers_behind P_numbers_behind := fun _ _ _ _ _ _ us hl => match us, hl with | [_, _], _ => rfl
theorem be_way_up : BindE "way_up" "way_up" s_way_up P_way_up := fun _ _ _ _ _ _ us hl => match us, hl with | [_], _ => rfl
theorem be_greatest : BindE "greatest" "greatest" s_greatest P_greatest := fun _ _ _ _ _ _ us hl => match us, hl with | [_], _ => rfl
theorem be_parts_of : BindE "parts_of" "parts_of" s_parts_of P_parts_of := fun _ _ _ _ _ _ us hl => match us, hl with | [_], _ => rfl
theorem be_third_root : BindE "third_root" "third_root" s_third_root P_third_root := fun _ _ _ _ _ _ us hl => match us, hl with | [_], _ => rfl
theorem be_third_form : BindE "third_form" "third_form" s_third_form P_third_form := fun _ _ _ _ _ _ us hl => match us, hl with | [_], _ => rfl
theorem be_heavy_place_of : BindE "heavy_place_of" "heavy_place_of" s_heavy_place_of P_heavy_place_of := fun _ _ _ _ _ _ us hl => match us, hl with | [_, _], _ => rfl
theorem be_third_greatest : BindE "third_greatest" "third_greatest" s_third_greatest P_third_greatest := fun _ _ _ _ _ _ us hl => match us, hl with | [_], _ => rfl
theorem be_law_cask : BindE "_law_cask" "_law_cask" s_law_cask P_law_cask := fun _ _ _ _ _ _ us hl => match us, hl with | [_, _], _ => rfl
theorem be_law_tap : BindE "_law_tap" "_law_tap" s_law_tap P_law_tap := fun _ _ _ _ _ _ us hl => match us, hl with | [_, _], _ => rfl
theorem be_law_one : BindE "_law_one" "_law_one" s_law_one P_law_one := fun _ _ _ _ _ _ us hl => match us, hl with | [_, _], _ => rfl
theorem be_law_is_right : BindE "_law_is_right" "_law_is_right" s_law_is_right P_law_is_right := fun _ _ _ _ _ _ us hl => match us, hl with | [_], _ => rfl
theorem be_law_right : BindE "_law_right" "_law_right" s_law_right P_law_right := fun _ _ _ _ _ _ us hl => match us, hl with | [_], _ => rfl
theorem be_KeptForm_init : BindE "__init__" "KeptForm.__init__" s_KeptForm_init P_KeptForm_init := fun _ _ _ _ _ _ us hl => match us, hl with | [_, _], _ => rfl
theorem be_Form_init : BindE "__init__" "Form.__init__" s_Form_init P_Form_init := fun _ _ _ _ _ _ us hl => match us, hl with | [_, _], _ => rfl
theorem be_Form_discriminant : BindE "discriminant" "Form.discriminant" s_Form_discriminant P_Form_discriminant := fun _ _ _ _ _ _ us hl => match us, hl with | [_], _ => rfl
theorem be_Form_getitem : BindE "__getitem__" "Form.__getitem__" s_Form_getitem P_Form_getitem := fun _ _ _ _ _ _ us hl => match us, hl with | [_, _], _ => rfl
theorem be_Form_eq : BindE "__eq__" "Form.__eq__" s_Form_eq P_Form_eq := fun _ _ _ _ _ _ us hl => match us, hl with | [_, _], _ => rfl
theorem be_Form_str : BindE "__str__" "Form.__str__" s_Form_str P_Form_str := fun _ _ _ _ _ _ us hl => match us, hl with | [_], _ => rfl
theorem be_Walk_init : BindE "__init__" "Walk.__init__" s_Walk_init P_Walk_init := fun _ _ _ _ _ _ us hl => match us, hl with | [_, _], _ => rfl
theorem be_Walk_step : BindE "step" "Walk.step" s_Walk_step P_Walk_step := fun _ _ _ _ _ _ us hl => match us, hl with | [_, _], _ => rfl
theorem be_law : BindE "law" "law" s_law P_law := fun _ _ _ _ _ _ us hl => match us, hl with | [_], _ => rfl
section
variable {w : World} {K : PySem.W.Frag} {h base : Heap} {mg : Str → Option Value}
theorem ex_of (c : SaysX faL fnL [] tfL exB w h K) (i : Nat) {b : Bool} (e : (exL K)[i]? = some b) : b = true :=
  List.all_eq_true.mp (show (exL K).all id = true from c.more) b (List.mem_of_getElem? e)
abbrev TxOf (w : World) (K : PySem.W.Frag) (mg : Str → Option Value) (base : Heap) : Tx := ⟨(PySem.Challenge.rw_formrings_k76_whole_greatest_rings_of_th).prog, w, K, mg, base, ga K "Form", ga K "KeptForm", ga K "Walk", tfL.map fun p => (cT K p).2⟩
theorem al_of (c : SaysX faL fnL [] tfL exB w h K) (cd : fnWA K (pgA K) = dDisc.val) (X : K.In base) (G : base.Ns mainGlobals mg) (TB : ∀ p ∈ tfL.map (cT K), LamX.TabB base mg p.1 p.2) : Al (TxOf w K mg base) where
  b_isinstance := free_ok X G (c.t.d.fact 79 (f := .free "isinstance") rfl)
  b_bool := free_ok X G (c.t.d.fact 80 (f := .free "bool") rfl)
  b_abs := free_ok X G (c.t.d.fact 81 (f := .free "abs") rfl)
  b_all := free_ok X G (c.t.d.fact 82 (f := .free "all") rfl)
  b_any := free_ok X G (c.t.d.fact 83 (f := .free "any") rfl)
  b_range := free_ok X G (c.t.d.fact 84 (f := .free "range") rfl)
  b_tuple := free_ok X G (c.t.d.fact 85 (f := .free "tuple") rfl)
  b_len := free_ok X G (c.t.d.fact 86 (f := .free "len") rfl)
  b_max := free_ok X G (c.t.d.fact 87 (f := .free "max") rfl)
  b_min := free_ok X G (c.t.d.fact 88 (f := .free "min") rfl)
  b_sorted := free_ok X G (c.t.d.fact 89 (f := .free "sorted") rfl)
  b_zip := free_ok X G (c.t.d.fact 90 (f := .free "zip") rfl)
  b_next := free_ok X G (c.t.d.fact 91 (f := .free "next") rfl)
  b_str := free_ok X G (c.t.d.fact 92 (f := .free "str") rfl)
  b_int := free_ok X G (c.t.d.fact 93 (f := .free "int") rfl)
  b_sum := free_ok X G (c.t.d.fact 94 (f := .free "sum") rfl)
  b_gcd := PySem.W.mg_of X G (eqO_ok (ex_of c 17 rfl))
  c_SIXTY_DIGITS := cst_int (int_ok X G (c.t.d.fact 95 (f := .int "SIXTY_DIGITS" ((10 ^ 60))) rfl))
  c_IDLE := cst_mt (T := TxOf w K mg base) (glo_ok X G (c.t.d.fact 74 (f := .glo "IDLE") rfl)) (ex_of c 20 rfl)
  c_SIZE_forms := cst_int (int_ok X G (c.t.d.fact 96 (f := .int "SIZE_forms" (4)) rfl))
  c_END_lines := cst_pa (T := TxOf w K mg base) (glo_ok X G (c.t.d.fact 72 (f := .glo "END_lines") rfl)) (ex_of c 18 rfl)
  c_EXCHANGE := cst_mt (T := TxOf w K mg base) (glo_ok X G (c.t.d.fact 75 (f := .glo "EXCHANGE") rfl)) (ex_of c 21 rfl)
  c_OPPOSITE_below := cst_mt (T := TxOf w K mg base) (glo_ok X G (c.t.d.fact 76 (f := .glo "OPPOSITE_below") rfl)) (ex_of c 22 rfl)
  c_MIRROR := cst_mt (T := TxOf w K mg base) (glo_ok X G (c.t.d.fact 77 (f := .glo "MIRROR") rfl)) (ex_of c 23 rfl)
  c_MIRROR_BACK := cst_mt (T := TxOf w K mg base) (glo_ok X G (c.t.d.fact 78 (f := .glo "MIRROR_BACK") rfl)) (ex_of c 24 rfl)
  c_MAX_STEPPED := cst_int (int_ok X G (c.t.d.fact 97 (f := .int "MAX_STEPPED" (100000000)) rfl))
  c_MOST_PRIME := cst_int (int_ok X G (c.t.d.fact 98 (f := .int "MOST_PRIME" (10000)) rfl))
  c_END_steps := cst_pa (T := TxOf w K mg base) (glo_ok X G (c.t.d.fact 73 (f := .glo "END_steps") rfl)) (ex_of c 19 rfl)
  c_PART := cst_str (str_ok X G (c.t.d.fact 103 (f := .str "PART" "part") rfl))
  c_ABOVE := cst_str (str_ok X G (c.t.d.fact 104 (f := .str "ABOVE" "above") rfl))
  c_CONTENT := cst_str (str_ok X G (c.t.d.fact 105 (f := .str "CONTENT" "content") rfl))
  c_PLACE := cst_str (str_ok X G (c.t.d.fact 106 (f := .str "PLACE" "place") rfl))
  c_LEAST_THIRD := cst_int (int_ok X G (c.t.d.fact 99 (f := .int "LEAST_THIRD" (2)) rfl))
  c_MAX_THIRD := cst_int (int_ok X G (c.t.d.fact 100 (f := .int "MAX_THIRD" (1000000000000)) rfl))
  c_MANY := cst_int (int_ok X G (c.t.d.fact 101 (f := .int "MANY" (3)) rfl))
  c_NINE := cst_int (int_ok X G (c.t.d.fact 102 (f := .int "NINE" (9)) rfl))
  d_is_whole := df_of (T := TxOf w K mg base) (c.t.d.def_ 0 (d := ⟨("is_whole", none), "is_whole", "is_whole", defArgs s_is_whole, defBody s_is_whole, defScope s_is_whole, [], []⟩) rfl) (glo_ok X G (c.t.d.fact 0 (f := .glo "is_whole") rfl)) be_is_whole
  d_is_integer := df_of (T := TxOf w K mg base) (c.t.d.def_ 1 (d := ⟨("is_integer", none), "is_integer", "is_integer", defArgs s_is_integer, defBody s_is_integer, defScope s_is_integer, [], []⟩) rfl) (glo_ok X G (c.t.d.fact 1 (f := .glo "is_integer") rfl)) be_is_integer
  d_is_within := df_of (T := TxOf w K mg base) (c.t.d.def_ 2 (d := ⟨("is_within", none), "is_within", "is_within", defArgs s_is_within, defBody s_is_within, defScope s_is_within, [], []⟩) rfl) (glo_ok X G (c.t.d.fact 2 (f := .glo "is_within") rfl)) be_is_within
  d_require_within := df_of (T := TxOf w K mg base) (c.t.d.def_ 3 (d := ⟨("require_within", none), "require_within", "require_within", defArgs s_require_within, defBody s_require_within, defScope s_require_within, [], []⟩) rfl) (glo_ok X G (c.t.d.fact 3 (f := .glo "require_within") rfl)) be_require_within
  d_common_of := df_of (T := TxOf w K mg base) (c.t.d.def_ 4 (d := ⟨("common_of", none), "common_of", "common_of", defArgs s_common_of, defBody s_common_of, defScope s_common_of, [], []⟩) rfl) (glo_ok X G (c.t.d.fact 4 (f := .glo "common_of") rfl)) be_common_of
  d_is_prime_number := df_of (T := TxOf w K mg base) (c.t.d.def_ 5 (d := ⟨("is_prime_number", none), "is_prime_number", "is_prime_number", defArgs s_is_prime_number, defBody s_is_prime_number, defScope s_is_prime_number, [], []⟩) rfl) (glo_ok X G (c.t.d.fact 5 (f := .glo "is_prime_number") rfl)) be_is_prime_number
  d_taken_out := df_of (T := TxOf w K mg base) (c.t.d.def_ 6 (d := ⟨("taken_out", none), "taken_out", "taken_out", defArgs s_taken_out, defBody s_taken_out, defScope s_taken_out, [], []⟩) rfl) (glo_ok X G (c.t.d.fact 6 (f := .glo "taken_out") rfl)) be_taken_out
  d_factors_in := df_of (T := TxOf w K mg base) (c.t.d.def_ 7 (d := ⟨("factors_in", none), "factors_in", "factors_in", defArgs s_factors_in, defBody s_factors_in, defScope s_factors_in, [], []⟩) rfl) (glo_ok X G (c.t.d.fact 7 (f := .glo "factors_in") rfl)) be_factors_in
  d_joined_in := df_of (T := TxOf w K mg base) (c.t.d.def_ 8 (d := ⟨("joined_in", none), "joined_in", "joined_in", defArgs s_joined_in, defBody s_joined_in, defScope s_joined_in, [], []⟩) rfl) (glo_ok X G (c.t.d.fact 8 (f := .glo "joined_in") rfl)) be_joined_in
  d_are_integers := df_of (T := TxOf w K mg base) (c.t.d.def_ 9 (d := ⟨("are_integers", none), "are_integers", "are_integers", defArgs s_are_integers, defBody s_are_integers, defScope s_are_integers, [], []⟩) rfl) (glo_ok X G (c.t.d.fact 9 (f := .glo "are_integers") rfl)) be_are_integers
  d_numbers_text := df_of (T := TxOf w K mg base) (c.t.d.def_ 10 (d := ⟨("numbers_text", none), "numbers_text", "numbers_text", defArgs s_numbers_text, defBody s_numbers_text, defScope s_numbers_text, [], []⟩) rfl) (glo_ok X G (c.t.d.fact 10 (f := .glo "numbers_text") rfl)) be_numbers_text
  d_lowest_place := df_of (T := TxOf w K mg base) (c.t.d.def_ 11 (d := ⟨("lowest_place", none), "lowest_place", "lowest_place", defArgs s_lowest_place, defBody s_lowest_place, defScope s_lowest_place, [], []⟩) rfl) (glo_ok X G (c.t.d.fact 11 (f := .glo "lowest_place") rfl)) be_lowest_place
  d_places_of_double := df_of (T := TxOf w K mg base) (c.t.d.def_ 12 (d := ⟨("places_of_double", none), "places_of_double", "places_of_double", defArgs s_places_of_double, defBody s_places_of_double, defScope s_places_of_double, [], []⟩) rfl) (glo_ok X G (c.t.d.fact 12 (f := .glo "places_of_double") rfl)) be_places_of_double
  d_monic_at := df_of (T := TxOf w K mg base) (c.t.d.def_ 13 (d := ⟨("monic_at", none), "monic_at", "monic_at", defArgs s_monic_at, defBody s_monic_at, defScope s_monic_at, [], []⟩) rfl) (glo_ok X G (c.t.d.fact 13 (f := .glo "monic_at") rfl)) be_monic_at
  d_bisected := df_of (T := TxOf w K mg base) (c.t.d.def_ 14 (d := ⟨("bisected", none), "bisected", "bisected", defArgs s_bisected, defBody s_bisected, defScope s_bisected, [], []⟩) rfl) (glo_ok X G (c.t.d.fact 14 (f := .glo "bisected") rfl)) be_bisected
  d_monic_roots := df_of (T := TxOf w K mg base) (c.t.d.def_ 15 (d := ⟨("monic_roots", none), "monic_roots", "monic_roots", defArgs s_monic_roots, defBody s_monic_roots, defScope s_monic_roots, [], []⟩) rfl) (glo_ok X G (c.t.d.fact 15 (f := .glo "monic_roots") rfl)) be_monic_roots
  d_places_of_cubic := df_of (T := TxOf w K mg base) (c.t.d.def_ 16 (d := ⟨("places_of_cubic", none), "places_of_cubic", "places_of_cubic", defArgs s_places_of_cubic, defBody s_places_of_cubic, defScope s_places_of_cubic, [], []⟩) rfl) (glo_ok X G (c.t.d.fact 16 (f := .glo "places_of_cubic") rfl)) be_places_of_cubic
  d_form_at := df_of (T := TxOf w K mg base) (c.t.d.def_ 17 (d := ⟨("form_at", none), "form_at", "form_at", defArgs s_form_at, defBody s_form_at, defScope s_form_at, [], []⟩) rfl) (glo_ok X G (c.t.d.fact 17 (f := .glo "form_at") rfl)) be_form_at
  d_form_led := df_of (T := TxOf w K mg base) (c.t.d.def_ 18 (d := ⟨("form_led", none), "form_led", "form_led", defArgs s_form_led, defBody s_form_led, defScope s_form_led, [], []⟩) rfl) (glo_ok X G (c.t.d.fact 18 (f := .glo "form_led") rfl)) be_form_led
  d_discriminant_of := df_of (T := TxOf w K mg base) (c.t.d.def_ 19 (d := ⟨("discriminant_of", none), "discriminant_of", "discriminant_of", defArgs s_discriminant_of, defBody s_discriminant_of, defScope s_discriminant_of, [], []⟩) rfl) (glo_ok X G (c.t.d.fact 19 (f := .glo "discriminant_of") rfl)) be_discriminant_of
  d_form_told := df_of (T := TxOf w K mg base) (c.t.d.def_ 20 (d := ⟨("form_told", none), "form_told", "form_told", defArgs s_form_told, defBody s_form_told, defScope s_form_told, [], []⟩) rfl) (glo_ok X G (c.t.d.fact 20 (f := .glo "form_told") rfl)) be_form_told
  d_made_form := df_of (T := TxOf w K mg base) (c.t.d.def_ 21 (d := ⟨("made_form", none), "made_form", "made_form", defArgs s_made_form, defBody s_made_form, defScope s_made_form, [], []⟩) rfl) (glo_ok X G (c.t.d.fact 21 (f := .glo "made_form") rfl)) be_made_form
  d_require_form := df_of (T := TxOf w K mg base) (c.t.d.def_ 22 (d := ⟨("require_form", none), "require_form", "require_form", defArgs s_require_form, defBody s_require_form, defScope s_require_form, [], []⟩) rfl) (glo_ok X G (c.t.d.fact 22 (f := .glo "require_form") rfl)) be_require_form
  d_bezout := df_of (T := TxOf w K mg base) (c.t.d.def_ 23 (d := ⟨("bezout", none), "bezout", "bezout", defArgs s_bezout, defBody s_bezout, defScope s_bezout, [], []⟩) rfl) (glo_ok X G (c.t.d.fact 23 (f := .glo "bezout") rfl)) be_bezout
  d_end_change := df_of (T := TxOf w K mg base) (c.t.d.def_ 24 (d := ⟨("end_change", none), "end_change", "end_change", defArgs s_end_change, defBody s_end_change, defScope s_end_change, [], []⟩) rfl) (glo_ok X G (c.t.d.fact 24 (f := .glo "end_change") rfl)) be_end_change
  d_lead_with_root := df_of (T := TxOf w K mg base) (c.t.d.def_ 25 (d := ⟨("lead_with_root", none), "lead_with_root", "lead_with_root", defArgs s_lead_with_root, defBody s_lead_with_root, defScope s_lead_with_root, [], []⟩) rfl) (glo_ok X G (c.t.d.fact 25 (f := .glo "lead_with_root") rfl)) be_lead_with_root
  d_is_small := df_of (T := TxOf w K mg base) (c.t.d.def_ 26 (d := ⟨("is_small", none), "is_small", "is_small", defArgs s_is_small, defBody s_is_small, defScope s_is_small, [], []⟩) rfl) (glo_ok X G (c.t.d.fact 26 (f := .glo "is_small") rfl)) be_is_small
  d_is_between := df_of (T := TxOf w K mg base) (c.t.d.def_ 27 (d := ⟨("is_between", none), "is_between", "is_between", defArgs s_is_between, defBody s_is_between, defScope s_is_between, [], []⟩) rfl) (glo_ok X G (c.t.d.fact 27 (f := .glo "is_between") rfl)) be_is_between
  d_is_not_past := df_of (T := TxOf w K mg base) (c.t.d.def_ 28 (d := ⟨("is_not_past", none), "is_not_past", "is_not_past", defArgs s_is_not_past, defBody s_is_not_past, defScope s_is_not_past, [], []⟩) rfl) (glo_ok X G (c.t.d.fact 28 (f := .glo "is_not_past") rfl)) be_is_not_past
  d_best_shift := df_of (T := TxOf w K mg base) (c.t.d.def_ 29 (d := ⟨("best_shift", none), "best_shift", "best_shift", defArgs s_best_shift, defBody s_best_shift, defScope s_best_shift, [], []⟩) rfl) (glo_ok X G (c.t.d.fact 29 (f := .glo "best_shift") rfl)) be_best_shift
  d_lead_without_root := df_of (T := TxOf w K mg base) (c.t.d.def_ 30 (d := ⟨("lead_without_root", none), "lead_without_root", "lead_without_root", defArgs s_lead_without_root, defBody s_lead_without_root, defScope s_lead_without_root, [], []⟩) rfl) (glo_ok X G (c.t.d.fact 30 (f := .glo "lead_without_root") rfl)) be_lead_without_root
  d_led_below := df_of (T := TxOf w K mg base) (c.t.d.def_ 31 (d := ⟨("led_below", none), "led_below", "led_below", defArgs s_led_below, defBody s_led_below, defScope s_led_below, [], []⟩) rfl) (glo_ok X G (c.t.d.fact 31 (f := .glo "led_below") rfl)) be_led_below
  d_least_of := df_of (T := TxOf w K mg base) (c.t.d.def_ 32 (d := ⟨("least_of", none), "least_of", "least_of", defArgs s_least_of, defBody s_least_of, defScope s_least_of, [], []⟩) rfl) (glo_ok X G (c.t.d.fact 32 (f := .glo "least_of") rfl)) be_least_of
  d_least_row := df_of (T := TxOf w K mg base) (c.t.d.def_ 33 (d := ⟨("least_row", none), "least_row", "least_row", defArgs s_least_row, defBody s_least_row, defScope s_least_row, [], []⟩) rfl) (glo_ok X G (c.t.d.fact 33 (f := .glo "least_row") rfl)) be_least_row
  d_least_made := df_of (T := TxOf w K mg base) (c.t.d.def_ 34 (d := ⟨("least_made", none), "least_made", "least_made", defArgs s_least_made, defBody s_least_made, defScope s_least_made, [], []⟩) rfl) (glo_ok X G (c.t.d.fact 34 (f := .glo "least_made") rfl)) be_least_made
  d_require_short := df_of (T := TxOf w K mg base) (c.t.d.def_ 35 (d := ⟨("require_short", none), "require_short", "require_short", defArgs s_require_short, defBody s_require_short, defScope s_require_short, [], []⟩) rfl) (glo_ok X G (c.t.d.fact 35 (f := .glo "require_short") rfl)) be_require_short
  d_is_least := df_of (T := TxOf w K mg base) (c.t.d.def_ 36 (d := ⟨("is_least", none), "is_least", "is_least", defArgs s_is_least, defBody s_is_least, defScope s_is_least, [], []⟩) rfl) (glo_ok X G (c.t.d.fact 36 (f := .glo "is_least") rfl)) be_is_least
  d_least_form := df_of (T := TxOf w K mg base) (c.t.d.def_ 37 (d := ⟨("least_form", none), "least_form", "least_form", defArgs s_least_form, defBody s_least_form, defScope s_least_form, [], []⟩) rfl) (glo_ok X G (c.t.d.fact 37 (f := .glo "least_form") rfl)) be_least_form
  d_is_small_prime := df_of (T := TxOf w K mg base) (c.t.d.def_ 38 (d := ⟨("is_small_prime", none), "is_small_prime", "is_small_prime", defArgs s_is_small_prime, defBody s_is_small_prime, defScope s_is_small_prime, [], []⟩) rfl) (glo_ok X G (c.t.d.fact 38 (f := .glo "is_small_prime") rfl)) be_is_small_prime
  d_require_prime := df_of (T := TxOf w K mg base) (c.t.d.def_ 39 (d := ⟨("require_prime", none), "require_prime", "require_prime", defArgs s_require_prime, defBody s_require_prime, defScope s_require_prime, [], []⟩) rfl) (glo_ok X G (c.t.d.fact 39 (f := .glo "require_prime") rfl)) be_require_prime
  d_places_at := df_of (T := TxOf w K mg base) (c.t.d.def_ 40 (d := ⟨("places_at", none), "places_at", "places_at", defArgs s_places_at, defBody s_places_at, defScope s_places_at, [], []⟩) rfl) (glo_ok X G (c.t.d.fact 40 (f := .glo "places_at") rfl)) be_places_at
  d_is_place := df_of (T := TxOf w K mg base) (c.t.d.def_ 41 (d := ⟨("is_place", none), "is_place", "is_place", defArgs s_is_place, defBody s_is_place, defScope s_is_place, [], []⟩) rfl) (glo_ok X G (c.t.d.fact 41 (f := .glo "is_place") rfl)) be_is_place
  d_slope_at := df_of (T := TxOf w K mg base) (c.t.d.def_ 42 (d := ⟨("slope_at", none), "slope_at", "slope_at", defArgs s_slope_at, defBody s_slope_at, defScope s_slope_at, [], []⟩) rfl) (glo_ok X G (c.t.d.fact 42 (f := .glo "slope_at") rfl)) be_slope_at
  d_is_heavy := df_of (T := TxOf w K mg base) (c.t.d.def_ 43 (d := ⟨("is_heavy", none), "is_heavy", "is_heavy", defArgs s_is_heavy, defBody s_is_heavy, defScope s_is_heavy, [], []⟩) rfl) (glo_ok X G (c.t.d.fact 43 (f := .glo "is_heavy") rfl)) be_is_heavy
  d_numbers_above := df_of (T := TxOf w K mg base) (c.t.d.def_ 44 (d := ⟨("numbers_above", none), "numbers_above", "numbers_above", defArgs s_numbers_above, defBody s_numbers_above, defScope s_numbers_above, [], []⟩) rfl) (glo_ok X G (c.t.d.fact 44 (f := .glo "numbers_above") rfl)) be_numbers_above
  d_is_divided := df_of (T := TxOf w K mg base) (c.t.d.def_ 45 (d := ⟨("is_divided", none), "is_divided", "is_divided", defArgs s_is_divided, defBody s_is_divided, defScope s_is_divided, [], []⟩) rfl) (glo_ok X G (c.t.d.fact 45 (f := .glo "is_divided") rfl)) be_is_divided
  d_heavy_places := df_of (T := TxOf w K mg base) (c.t.d.def_ 46 (d := ⟨("heavy_places", none), "heavy_places", "heavy_places", defArgs s_heavy_places, defBody s_heavy_places, defScope s_heavy_places, [], []⟩) rfl) (glo_ok X G (c.t.d.fact 46 (f := .glo "heavy_places") rfl)) be_heavy_places
  d_above := df_of (T := TxOf w K mg base) (c.t.d.def_ 47 (d := ⟨("above", none), "above", "above", defArgs s_above, defBody s_above, defScope s_above, [], []⟩) rfl) (glo_ok X G (c.t.d.fact 47 (f := .glo "above") rfl)) be_above
  d_require_stepped := df_of (T := TxOf w K mg base) (c.t.d.def_ 48 (d := ⟨("require_stepped", none), "require_stepped", "require_stepped", defArgs s_require_stepped, defBody s_require_stepped, defScope s_require_stepped, [], []⟩) rfl) (glo_ok X G (c.t.d.fact 48 (f := .glo "require_stepped") rfl)) be_require_stepped
  d_double_primes := df_of (T := TxOf w K mg base) (c.t.d.def_ 49 (d := ⟨("double_primes", none), "double_primes", "double_primes", defArgs s_double_primes, defBody s_double_primes, defScope s_double_primes, [], []⟩) rfl) (glo_ok X G (c.t.d.fact 49 (f := .glo "double_primes") rfl)) be_double_primes
  d_bar_at := dg_of (T := TxOf w K mg base) (c.t.d.def_ 50 (d := ⟨("bar_at", none), "bar_at", "bar_at", defArgs s_bar_at, defBody s_bar_at, defScope s_bar_at, [], []⟩) rfl) (glo_ok X G (c.t.d.fact 50 (f := .glo "bar_at") rfl)) be_bar_at (TB _ (List.mem_map.mpr ⟨_, List.mem_of_getElem? (i := 0) rfl, rfl⟩)) (List.mem_map.mpr ⟨_, List.mem_of_getElem? (i := 0) rfl, rfl⟩)
  d_first_bar := dg_of (T := TxOf w K mg base) (c.t.d.def_ 51 (d := ⟨("first_bar", none), "first_bar", "first_bar", defArgs s_first_bar, defBody s_first_bar, defScope s_first_bar, [], []⟩) rfl) (glo_ok X G (c.t.d.fact 51 (f := .glo "first_bar") rfl)) be_first_bar (TB _ (List.mem_map.mpr ⟨_, List.mem_of_getElem? (i := 1) rfl, rfl⟩)) (List.mem_map.mpr ⟨_, List.mem_of_getElem? (i := 1) rfl, rfl⟩)
  d_bar := df_of (T := TxOf w K mg base) (c.t.d.def_ 52 (d := ⟨("bar", none), "bar", "bar", defArgs s_bar, defBody s_bar, defScope s_bar, [], []⟩) rfl) (glo_ok X G (c.t.d.fact 52 (f := .glo "bar") rfl)) be_bar
  d_is_greatest := df_of (T := TxOf w K mg base) (c.t.d.def_ 53 (d := ⟨("is_greatest", none), "is_greatest", "is_greatest", defArgs s_is_greatest, defBody s_is_greatest, defScope s_is_greatest, [], []⟩) rfl) (glo_ok X G (c.t.d.fact 53 (f := .glo "is_greatest") rfl)) be_is_greatest
  d_step_of := df_of (T := TxOf w K mg base) (c.t.d.def_ 54 (d := ⟨("step_of", none), "step_of", "step_of", defArgs s_step_of, defBody s_step_of, defScope s_step_of, [], []⟩) rfl) (glo_ok X G (c.t.d.fact 54 (f := .glo "step_of") rfl)) be_step_of
  d_numbers_behind := df_of (T := TxOf w K mg base) (c.t.d.def_ 55 (d := ⟨("numbers_behind", none), "numbers_behind", "numbers_behind", defArgs s_numbers_behind, defBody s_numbers_behind, defScope s_numbers_behind, [], []⟩) rfl) (glo_ok X G (c.t.d.fact 55 (f := .glo "numbers_behind") rfl)) be_numbers_behind
  d_way_up := df_of (T := TxOf w K mg base) (c.t.d.def_ 56 (d := ⟨("way_up", none), "way_up", "way_up", defArgs s_way_up, defBody s_way_up, defScope s_way_up, [], []⟩) rfl) (glo_ok X G (c.t.d.fact 56 (f := .glo "way_up") rfl)) be_way_up
  d_greatest := df_of (T := TxOf w K mg base) (c.t.d.def_ 57 (d := ⟨("greatest", none), "greatest", "greatest", defArgs s_greatest, defBody s_greatest, defScope s_greatest, [], []⟩) rfl) (glo_ok X G (c.t.d.fact 57 (f := .glo "greatest") rfl)) be_greatest
  d_parts_of := df_of (T := TxOf w K mg base) (c.t.d.def_ 58 (d := ⟨("parts_of", none), "parts_of", "parts_of", defArgs s_parts_of, defBody s_parts_of, defScope s_parts_of, [], []⟩) rfl) (glo_ok X G (c.t.d.fact 58 (f := .glo "parts_of") rfl)) be_parts_of
  d_third_root := df_of (T := TxOf w K mg base) (c.t.d.def_ 59 (d := ⟨("third_root", none), "third_root", "third_root", defArgs s_third_root, defBody s_third_root, defScope s_third_root, [], []⟩) rfl) (glo_ok X G (c.t.d.fact 59 (f := .glo "third_root") rfl)) be_third_root
  d_third_form := df_of (T := TxOf w K mg base) (c.t.d.def_ 60 (d := ⟨("third_form", none), "third_form", "third_form", defArgs s_third_form, defBody s_third_form, defScope s_third_form, [], []⟩) rfl) (glo_ok X G (c.t.d.fact 60 (f := .glo "third_form") rfl)) be_third_form
  d_heavy_place_of := df_of (T := TxOf w K mg base) (c.t.d.def_ 61 (d := ⟨("heavy_place_of", none), "heavy_place_of", "heavy_place_of", defArgs s_heavy_place_of, defBody s_heavy_place_of, defScope s_heavy_place_of, [], []⟩) rfl) (glo_ok X G (c.t.d.fact 61 (f := .glo "heavy_place_of") rfl)) be_heavy_place_of
  d_third_greatest := df_of (T := TxOf w K mg base) (c.t.d.def_ 62 (d := ⟨("third_greatest", none), "third_greatest", "third_greatest", defArgs s_third_greatest, defBody s_third_greatest, defScope s_third_greatest, [], []⟩) rfl) (glo_ok X G (c.t.d.fact 62 (f := .glo "third_greatest") rfl)) be_third_greatest
  d_law_cask := df_of (T := TxOf w K mg base) (c.t.d.def_ 63 (d := ⟨("_law_cask", none), "_law_cask", "_law_cask", defArgs s_law_cask, defBody s_law_cask, defScope s_law_cask, [], []⟩) rfl) (glo_ok X G (c.t.d.fact 63 (f := .glo "_law_cask") rfl)) be_law_cask
  d_law_tap := df_of (T := TxOf w K mg base) (c.t.d.def_ 64 (d := ⟨("_law_tap", none), "_law_tap", "_law_tap", defArgs s_law_tap, defBody s_law_tap, defScope s_law_tap, [], []⟩) rfl) (glo_ok X G (c.t.d.fact 64 (f := .glo "_law_tap") rfl)) be_law_tap
  d_law_one := df_of (T := TxOf w K mg base) (c.t.d.def_ 65 (d := ⟨("_law_one", none), "_law_one", "_law_one", defArgs s_law_one, defBody s_law_one, defScope s_law_one, [], []⟩) rfl) (glo_ok X G (c.t.d.fact 65 (f := .glo "_law_one") rfl)) be_law_one
  d_law_is_right := df_of (T := TxOf w K mg base) (c.t.d.def_ 66 (d := ⟨("_law_is_right", none), "_law_is_right", "_law_is_right", defArgs s_law_is_right, defBody s_law_is_right, defScope s_law_is_right, [], []⟩) rfl) (glo_ok X G (c.t.d.fact 66 (f := .glo "_law_is_right") rfl)) be_law_is_right
  d_law_right := df_of (T := TxOf w K mg base) (c.t.d.def_ 67 (d := ⟨("_law_right", none), "_law_right", "_law_right", defArgs s_law_right, defBody s_law_right, defScope s_law_right, [], []⟩) rfl) (glo_ok X G (c.t.d.fact 67 (f := .glo "_law_right") rfl)) be_law_right
  cls := fun b => match b with
    | true => ⟨clsB_ok (ex_of c 0 rfl), isiB_ok (ex_of c 3 rfl)⟩
    | false => ⟨clsB_ok (ex_of c 1 rfl), isiB_ok (ex_of c 4 rfl)⟩
  sl_own_coefficients := ⟨_, slB_ok (ex_of c 5 rfl) (by decide)⟩
  sl_own_numbers := ⟨_, slB_ok (ex_of c 6 rfl) (by decide)⟩
  g_Form := (glo_ok X G (c.t.d.fact 69 (f := .glo "Form") rfl))
  g_KeptForm := (glo_ok X G (c.t.d.fact 70 (f := .glo "KeptForm") rfl))
  g_Walk := (glo_ok X G (c.t.d.fact 71 (f := .glo "Walk") rfl))
  kFF := of_decide_eq_true (ex_of c 11 rfl)
  kKK := of_decide_eq_true (ex_of c 12 rfl)
  kTK := of_decide_eq_true (ex_of c 13 rfl)
  wk := ⟨clsB_ok (ex_of c 2 rfl), ⟨_, slB_ok (ex_of c 7 rfl) (by decide)⟩, ⟨_, slB_ok (ex_of c 8 rfl) (by decide)⟩⟩
  m_KeptForm_init := by
    obtain ⟨fd, F⟩ := (c.t.d.def_ 68 (d := ⟨("KeptForm", some "__init__"), "__init__", "KeptForm.__init__", defArgs s_KeptForm_init, defBody s_KeptForm_init, defScope s_KeptForm_init, [], []⟩) rfl)
    exact ⟨_, fd, funX_of (T := TxOf w K mg base) F, mkr_ok (c.t.d.fact 108 (f := .mkr "KeptForm") rfl), F.bindsN be_KeptForm_init⟩
  m_Form_init := by
    obtain ⟨fd, F⟩ := (c.t.d.def_ 69 (d := ⟨("Form", some "__init__"), "__init__", "Form.__init__", defArgs s_Form_init, defBody s_Form_init, defScope s_Form_init, [], []⟩) rfl)
    exact ⟨_, fd, funX_of (T := TxOf w K mg base) F, mkr_ok (c.t.d.fact 107 (f := .mkr "Form") rfl), F.bindsN be_Form_init⟩
  m_Walk_init := by
    obtain ⟨fd, F⟩ := (c.t.d.def_ 73 (d := ⟨("Walk", some "__init__"), "__init__", "Walk.__init__", defArgs s_Walk_init, defBody s_Walk_init, defScope s_Walk_init, [], []⟩) rfl)
    exact ⟨_, fd, funX_of (T := TxOf w K mg base) F, mkr_ok (c.t.d.fact 109 (f := .mkr "Walk") rfl), F.bindsN be_Walk_init⟩
  m_step := by
    obtain ⟨fd, F⟩ := (c.t.d.def_ 74 (d := ⟨("Walk", some "step"), "step", "Walk.step", defArgs s_Walk_step, defBody s_Walk_step, defScope s_Walk_step, [], []⟩) rfl)
    exact ⟨_, fd, funX_of (T := TxOf w K mg base) F, meth_ok (c.t.d.fact 110 (f := .meth "Walk" "step") rfl), F.bindsN be_Walk_step⟩
  m_disc := by
    obtain ⟨fd, F⟩ := funD_at (d := dDisc) cd (ex_of c 10 rfl)
    obtain ⟨p1, p2, p3, p4⟩ := prB_ok (ex_of c 9 rfl)
    exact ⟨_, _, fd, p1, p2, p3, p4, funX_of (T := TxOf w K mg base) F, F.bindsN be_Form_discriminant⟩
  m_item := by
    obtain ⟨fd, F⟩ := (c.t.d.def_ 70 (d := ⟨("Form", some "__getitem__"), "__getitem__", "Form.__getitem__", defArgs s_Form_getitem, defBody s_Form_getitem, defScope s_Form_getitem, [], []⟩) rfl)
    have m := meth_ok (c.t.d.fact 111 (f := .meth "Form" "__getitem__") rfl)
    exact ⟨_, fd, m.at_, ex_of c 14 rfl, m.fn, funX_of (T := TxOf w K mg base) F, F.bindsN be_Form_getitem⟩
  m_eq := by
    obtain ⟨fd, F⟩ := (c.t.d.def_ 71 (d := ⟨("Form", some "__eq__"), "__eq__", "Form.__eq__", defArgs s_Form_eq, defBody s_Form_eq, defScope s_Form_eq, [], []⟩) rfl)
    have m := meth_ok (c.t.d.fact 112 (f := .meth "Form" "__eq__") rfl)
    exact ⟨_, fd, m.at_, m.fn, funX_of (T := TxOf w K mg base) F, F.bindsN be_Form_eq⟩
  m_str := by
    obtain ⟨fd, F⟩ := (c.t.d.def_ 72 (d := ⟨("Form", some "__str__"), "__str__", "Form.__str__", defArgs s_Form_str, defBody s_Form_str, defScope s_Form_str, [], []⟩) rfl)
    have m := meth_ok (c.t.d.fact 113 (f := .meth "Form" "__str__") rfl)
    exact ⟨_, fd, m.at_, m.fn, funX_of (T := TxOf w K mg base) F, F.bindsN be_Form_str⟩
  ne := eqO_ok (ex_of c 15 rfl)
  mr := of_decide_eq_true (ex_of c 16 rfl)
theorem law_def (c : SaysX faL fnL [] tfL exB w h K) : ∃ fd, FunD K "law" "law" (defArgs s_law) (defBody s_law) (defScope s_law) [] [] (ga K "law") fd := (c.t.d.def_ 75 (d := ⟨("law", none), "law", "law", defArgs s_law, defBody s_law, defScope s_law, [], []⟩) rfl)
theorem law_glo (c : SaysX faL fnL [] tfL exB w h K) (X : K.In base) (G : base.Ns mainGlobals mg) : mg "law" = some (.ref (ga K "law")) := (glo_ok X G (c.t.d.fact 68 (f := .glo "law") rfl))
end
end Fr
set_option maxHeartbeats 0
namespace Fr
open PySem PySem.Spec PyProof.Rows L2 He
theorem del_no (H : Hp) : del H noM = H := funext fun a => del_of fun z => z
theorem repL_ints {T : Tx} {H : Hp} {a : Addr} {ns : List Int} (h : SqL T.K H a (ns.map V.int)) : Rep T H (.lst (ns.map .int)) (.ref a) := by
  unfold Rep
  exact ⟨a, _, rfl, h, reps_ints.mpr rfl⟩
def spLaw (K : PySem.W.Frag) : Sp := fun vs H Q _ => ∃ (a : Addr) (ns : List Int), vs = [.ref a] ∧ (∀ p ∈ tfL.map (cT K), H p.2 = some (.tbl #[])) ∧ SqL K H a (ns.map V.int) ∧ ∀ H', Q (.bl true) H'
theorem law_at {w : World} {K : PySem.W.Frag} {mg : Str → Option Value} {fa : Addr} {h : Heap} (KX : K.In h) (c : SaysX faL fnL [] tfL exB w h K) (cd : fnWA K (pgA K) = dDisc.val) (G : h.Ns mainGlobals mg) (hmg : mg "law" = some (.ref fa)) :
    LamX.LawAtS PySem.Challenge.rw_formrings_k76_whole_greatest_rings_of_th w K CX0 14 63 "_law_script" mg fa h := by
  obtain ⟨fd, F⟩ := law_def c
  have e := hmg.symm.trans (law_glo c KX G)
  cases e
  refine ⟨fd, tfL.map (cT K), spLaw K, fun p hp => ?_, fun p hp => ?_, fun p hp => ?_, fun s u => F.bindsA be_law s [u] rfl, fun H a ns _ _ hT hS => ⟨a, ns, rfl, hT, hS, fun _ => rfl⟩, fun base X G TB => ?_⟩
  · obtain ⟨q, hq, rfl⟩ := List.mem_map.mp hp
    exact c.empty q hq
  · obtain ⟨q, hq, rfl⟩ := List.mem_map.mp hp
    exact c.out q hq
  · obtain ⟨q, hq, rfl⟩ := List.mem_map.mp hp
    exact PySem.W.codeHd_of_K KX (c.hd q hq)
  · have A := al_of c cd X G TB
    refine FnOk.imp (ok_law A all_right small3 (funX_of (T := TxOf w K mg base) F)) fun vs H Q E hs => ?_
    obtain ⟨a, ns, rfl, hT, hS, hQ⟩ := hs
    refine ⟨noM, [.lst (ns.map .int)], .bl true, ⟨fun a z => z.elim, fun P hP => ?_⟩, ?_, ⟨ns, rfl, rfl⟩, fun v H' _ r => ?_⟩
    · obtain ⟨q, hq, rfl⟩ := List.mem_map.mp hP
      exact ⟨#[], hT _ (List.mem_map.mpr ⟨q, hq, rfl⟩), trivial⟩
    · unfold Reps
      refine ⟨_, _, rfl, ?_, by unfold Reps; rfl⟩
      rw [del_no]
      exact repL_ints hS
    · have : v = .bl true := rep_bl.mp r
      subst this
      exact hQ H'
end Fr
open PySem PySem.W PySem.Calls PyProof.Rows
theorem PySem.Challenge.cw_formrings_k76_whole_greatest_rings_of_th_holds : PySem.Challenge.rw_formrings_k76_whole_greatest_rings_of_th.Holds := by
  w_on; o_law
  refine HandSHeadRun.head_imp (r := OpenLaw.row PySem.Challenge.rw_formrings_k76_whole_greatest_rings_of_th) (q := Fr.qv) (H := Fr.hkL) (ob := Fr.ob) (M := 20000) (loose := Fr.names) (d := HandSHeadRun.topDef (OpenLaw.row PySem.Challenge.rw_formrings_k76_whole_greatest_rings_of_th).prog 147) (kwd := []) Fr.ob_eq
    (fun w => Fr.run_of (Fr.runL w) (Fr.runS w) (Fr.runA w) (Fr.runB w) (Fr.runC w)) (by kernel_rfl) (by kernel_rfl) (by kernel_rfl) (by rfl) (by first | assumption | decide +kernel) (by decide +kernel) ⟨rfl, rfl, rfl, rfl, rfl, by decide +kernel⟩ ?hw ?hc
  case hw => w_witness2
  case hc =>
    refine LamX.walk_ofTsE (l := PySem.Challenge.rw_formrings_k76_whole_greatest_rings_of_th) (n := 63) (k := 14) (x := "_law_script") (CX := fun _ => L2.CX0) rfl (by decide) (by kernel_rfl) ⟨rfl, by decide, by decide⟩ ?F (fun _ _ _ _ _ z => z)
    intro w mg fa h Y G hmg0
    obtain ⟨K, KX, c, cd⟩ := Y
    have hmg : mg ("law" : PySem.Str) = some (.ref fa) := by
      have e : (HandSHeadRun.topDef (OpenLaw.row PySem.Challenge.rw_formrings_k76_whole_greatest_rings_of_th).prog 147).name = ("law" : PySem.Str) := by kernel_rfl
      rw [← e]
      exact hmg0
    exact ⟨K, KX, Fr.law_at KX c cd G hmg⟩
