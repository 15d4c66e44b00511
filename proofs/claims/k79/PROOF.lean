import PyProof.Rows.All
import Wide.All
import OpenK.AllK
import Wide.FinOn
import HandS.ForMost
import HandS.More
import HandS.Slots
import HandS.SlotsOwn
import HandS.AnyAll
import HandS.Gcd
import HandS.Wide
import HandS.IsInst
import HandS.TupSets
import HandS.HeadHook4
import HandS.Words
import KE.KStateDown
import Lean
import HandS.HeadEnd
import HandS.HeadWalk
import HandS.Head2
import HandS.Head3
import HandS.Style
import HandS.Defaults
import HandS.Flt
import KE.SortData
import KE.DataCmp
import HandS.Star
import KE.KDictCopyH
import KE.KDictSum
import HandS.SetBool
import HandS.DictComp
import HandS.GenList
import HandS.IterVal
import PySem.Challenge.RW_formrings_k79_whole_fields_of_square_dis
set_option Elab.async false
set_option linter.all false
set_option maxRecDepth 100000
set_option maxHeartbeats 4000000
/-! Qa: data; what the head tells, as Bools. -/
namespace DL
open PySem PySem.Spec PyProof.Rows L2
/-- the classes with one slot -/
inductive Cn where
  | kf | fm | kd | db
  deriving DecidableEq
def Cn.nm : Cn → Str
  | .kf => "KeptForm" | .fm => "Form" | .kd => "KeptDouble" | .db => "Double"
def ca (K : PySem.W.Frag) (c : Cn) : Addr := He.ga K c.nm
/-- data that never changes -/
inductive D where
  | non | bl (b : Bool) | int (i : Int) | str (x : Str) | tup (ds : List D) | obj (c : Cn) (x : D)
/-- where a function stands -/
inductive Pl where
  | g (x : Str) | m (c : Cn) (x : Str) | p (c : Cn) (x : Str)
/-- a property's object; its function -/
def prA (K : PySem.W.Frag) (c : Cn) (x : Str) : Addr := He.ma K (ca K c) x
def plA (K : PySem.W.Frag) : Pl → Addr
  | .g x => He.ga K x
  | .m c x => He.ma K (ca K c) x
  | .p c x => match PySem.W.recIn K (prA K c x) "property" with
    | some (.ref g :: _) => g
    | _ => 0
structure Df where
  pl : Pl
  name : Str
  qual : Str
  params : Arguments
  body : List Stmt
  scope : Scope
def Df.val (d : Df) : He.FnW := some (d.name, d.qual, d.params, .stmts d.body, d.scope, mainGlobals, [], builtinsNs)
def fnA (K : PySem.W.Frag) (a : Addr) : He.FnW := match K.lookup a with
  | some ⟨_, _, .func fd, _⟩ => some (fd.name, fd.qualname, fd.params, fd.body, fd.scope, fd.globals, fd.closure, fd.builtins)
  | _ => none
def Df.ok (K : PySem.W.Frag) (d : Df) : Bool := PySem.W.keepIn K (.ref (plA K d.pl)) && (match K.lookup (plA K d.pl) with
  | some ⟨_, _, .func fd, _⟩ => PySem.W.codeIn K fd.code d.qual && (He.dflB K fd.defaults [] && He.kwdB K fd.kwdefaults [])
  | _ => false)
mutual
def conB (K : PySem.W.Frag) : D → Value → Bool
  | .int i, .int j _ => decide (j = i)
  | .str x, .str y _ => decide (y = x)
  | .bl a, .bool b => decide (b = a)
  | .non, .none => true
  | .tup ds, .ref a => (match K.lookup a with
    | some ⟨.type c, _, .seq its _, _⟩ => decide (c = "tuple") && (decide (its.size ≤ sizeLine) && conA K ds its.toList)
    | _ => false)
  | _, _ => false
def conA (K : PySem.W.Frag) : List D → List Value → Bool
  | [], [] => true
  | d :: ds, v :: vs => conB K d v && conA K ds vs
  | _, _ => false
end
inductive Fk where
  | glo (x : Str) | free (x : Str) | blt (x : Str) (id : String) | con (x : Str) (d : D) | cls (c : Cn) | slot (c : Cn) (f : Str) | prop (c : Cn) (f : Str) | mk (c : Cn) | meth (c : Cn) (f : Str)
def eqP (a b : Option Bool) : Bool := decide (a = b)
def eqV (a b : Option Value) : Bool := decide (a = b)
def Fk.ok (K : PySem.W.Frag) : Fk → Bool
  | .glo x => He.eqO (PySem.W.nsIn K mainGlobals x) (some (some (.ref (He.ga K x)))) && PySem.W.keepIn K (.ref (He.ga K x))
  | .free x => He.eqO (PySem.W.nsIn K mainGlobals x) (some none)
  | .blt x id => He.eqO (PySem.W.nsIn K mainGlobals x) (some (some (.builtin id)))
  | .con x d => (match PySem.W.nsIn K mainGlobals x with
    | some (some u) => conB K d u
    | _ => false)
  | .cls c => PySem.W.plainGet K (ca K c) Str.empty && (PySem.W.isClsIn K (ca K c) && (PySem.W.plainOver K (ca K c) && (He.eqO (PySem.W.findIn K (.ref (ca K c)) "__setattr__") (some (some (.builtin "object.__setattr__"))) &&
    (He.eqO (PySem.W.findIn K (.ref (ca K c)) "__class__") (some (some (.builtin "object.__class__"))) && (He.eqO (PySem.W.specialIn K (.builtin "object.__class__") "__get__") (some (some (.builtin "getset_descriptor.__get__"))) &&
    (eqP (PySem.W.takesIn K (.builtin "object.__class__")) (some true) && (eqP (PySem.W.mroIn K (ca K c) (.type "object")) (some true) && (eqP (PySem.W.kitOne K (.ref (ca K c)) (.ref (ca K c))) (some true) && (eqP (PySem.W.kitOne K (.type "tuple") (.ref (ca K c))) (some false) && PySem.W.keepIn K (.ref (ca K c)))))))))))
  | .slot c f => He.eqO (PySem.W.findIn K (.ref (ca K c)) f) (some (some (.ref (prA K c f)))) && (He.eqO (PySem.W.specialIn K (.ref (prA K c f)) "__get__") (some (some (.builtin "member_descriptor.__get__"))) && (eqP (PySem.W.takesIn K (.ref (prA K c f))) (some true) &&
    (eqV (PySem.W.typeIn K (.ref (prA K c f))) (some (.type "member_descriptor")) && decide (PySem.W.slotIn K (prA K c f) (ca K c) = some 0))))
  | .prop c f => He.eqO (PySem.W.findIn K (.ref (ca K c)) f) (some (some (.ref (prA K c f)))) && (He.eqO (PySem.W.specialIn K (.ref (prA K c f)) "__get__") (some (some (.builtin "property.__get__"))) && (eqP (PySem.W.takesIn K (.ref (prA K c f))) (some true) &&
    (match PySem.W.recIn K (prA K c f) "property" with
      | some (.ref _ :: _) => true
      | _ => false)))
  | .mk c => PySem.W.makesIn K (ca K c) && (He.eqO (PySem.W.findIn K (.ref (ca K c)) "__init__") (some (some (.ref (He.ma K (ca K c) "__init__")))) && (PySem.W.isFn K (.ref (He.ma K (ca K c) "__init__")) && PySem.W.keepIn K (.ref (ca K c))))
  | .meth c f => He.eqO (PySem.W.findIn K (.ref (ca K c)) f) (some (some (.ref (He.ma K (ca K c) f)))) && (PySem.W.isFn K (.ref (He.ma K (ca K c) f)) && PySem.W.keepIn K (.ref (He.ma K (ca K c) f)))
end DL
set_option Elab.async false
set_option linter.all false
set_option maxRecDepth 100000
set_option maxHeartbeats 4000000
namespace F79
open PySem PySem.Spec PyProof.Rows L2 DL
abbrev PW : Program := PySem.Challenge.pw_formrings_k79_whole_fields_of_square_dis
def top (i : Nat) : Stmt := PW.main.body.getD i (.Pass ⟨0, 0, 0, 0⟩)
def c_SIXTY_DIGITS : D := .int 1000000000000000000000000000000000000000000000000000000000000
def c_IDLE : D := .tup [(.tup [(.int 1), (.int 0)]), (.tup [(.int 0), (.int 1)])]
def c_SIZE_doubles : D := .int 3
def c_END_lines : D := .tup [(.int 1), (.int 0)]
def c_SIZE_forms : D := .int 4
def c_MOST_DIGITS_forms : D := .int 60
def c_MINUS : D := .str "-"
def c_BETWEEN : D := .str ", "
def c_DIGITS : D := .str "0123456789"
def c_SWAPPED : D := .tup [(.tup [(.int 0), (.int 1)]), (.tup [(.int (-1)), (.int 0)])]
def c_MIRRORED : D := .tup [(.tup [(.int 1), (.int 0)]), (.tup [(.int 0), (.int (-1))])]
def c_SIGNS : D := .tup [(.int (-1)), (.int 0), (.int 1)]
def c_EXCHANGE : D := .tup [(.tup [(.int 0), (.int 1)]), (.tup [(.int (-1)), (.int 0)])]
def c_OPPOSITE_below : D := .tup [(.tup [(.int (-1)), (.int 0)]), (.tup [(.int 0), (.int (-1))])]
def c_MIRROR : D := .tup [(.tup [(.int 1), (.int 0)]), (.tup [(.int 0), (.int (-1))])]
def c_MIRROR_BACK : D := .tup [(.tup [(.int (-1)), (.int 0)]), (.tup [(.int 0), (.int 1)])]
def c_OPPOSITE_zero : D := .tup [(.tup [(.int (-1)), (.int 0)]), (.tup [(.int 0), (.int (-1))])]
def c_TURNED : D := .tup [(.tup [(.int (-1)), (.int 0)]), (.tup [(.int 0), (.int 1)])]
def c_MOST_DIGITS_least : D := .int 20
def c_MAX_STEPPED : D := .int 100000000
def c_END_steps : D := .tup [(.int 1), (.int 0)]
def c_CONTENT : D := .str "content"
def c_PLACE : D := .str "place"
def c_MAX_CONDUCTOR : D := .int 300
def fs0 : List Fk := [.glo "is_whole", .glo "is_integer", .glo "is_within", .glo "require_within", .glo "common_of", .glo "taken_out", .glo "factors_in", .glo "joined_in", .glo "are_integers", .glo "content_of", .glo "double_told", .glo "form_told", .glo "made_double", .glo "made_form", .glo "lowest_place", .glo "places_of_double"]
def fs1 : List Fk := [.glo "monic_at", .glo "bisected", .glo "monic_roots", .glo "places_of_cubic", .glo "form_at", .glo "form_led", .glo "discriminant_of", .glo "hessian_of", .glo "require_other_than_zero", .glo "require_form", .glo "small_changes", .glo "way_to_small", .glo "led_above", .glo "least_of", .glo "least_row", .glo "least_made"]
def fs2 : List Fk := [.glo "require_short", .glo "is_least", .glo "least_form", .glo "places_at", .glo "slope_at", .glo "is_heavy", .glo "is_divided", .glo "require_stepped", .glo "double_primes", .glo "bar_at", .glo "first_bar", .glo "bar", .glo "is_greatest", .glo "turning_numbers", .glo "is_turning", .glo "is_product_of_parts"]
def fs3 : List Fk := [.glo "turning_forms_of", .glo "square_fields", .glo "_law_root", .glo "_law_turning", .glo "_law_parts_of", .glo "_law_pairs", .glo "_law_is_right", .glo "_law_cask", .glo "_law_tap", .glo "_law_one", .glo "_law_drawn", .glo "law", .free "abs", .free "len", .free "tuple", .free "int"]
def fs4 : List Fk := [.free "all", .free "any", .free "sorted", .free "set", .free "isinstance", .free "max", .free "min", .free "range", .free "next", .free "bool", .free "sum", .blt "gcd" "math.gcd", .blt "isqrt" "math.isqrt", .glo "KeptForm", .glo "Form", .glo "KeptDouble"]
def fs5 : List Fk := [.glo "Double", .cls .kf, .cls .fm, .cls .kd, .cls .db, .slot .kf "own_numbers", .slot .fm "own_coefficients", .slot .kd "own_numbers", .slot .db "own_coefficients", .mk .kf, .mk .fm, .mk .kd, .mk .db, .prop .db "content", .prop .fm "coefficients", .prop .fm "discriminant"]
def fs6 : List Fk := [.prop .fm "hessian", .meth .fm "roots", .con "SIXTY_DIGITS" c_SIXTY_DIGITS, .con "SIZE_doubles" c_SIZE_doubles, .con "SIZE_forms" c_SIZE_forms, .con "END_lines" c_END_lines, .con "SIGNS" c_SIGNS, .con "IDLE" c_IDLE, .con "MIRRORED" c_MIRRORED, .con "SWAPPED" c_SWAPPED, .con "MOST_DIGITS_least" c_MOST_DIGITS_least, .con "END_steps" c_END_steps, .con "MAX_STEPPED" c_MAX_STEPPED, .con "CONTENT" c_CONTENT, .con "PLACE" c_PLACE, .con "MAX_CONDUCTOR" c_MAX_CONDUCTOR]
def fsL : List Fk := fs0 ++ fs1 ++ fs2 ++ fs3 ++ fs4 ++ fs5 ++ fs6
abbrev d_is_whole : Df := ⟨.g "is_whole", "is_whole", "is_whole", defArgs (top 13), defBody (top 13), defScope (top 13)⟩
abbrev d_is_integer : Df := ⟨.g "is_integer", "is_integer", "is_integer", defArgs (top 14), defBody (top 14), defScope (top 14)⟩
abbrev d_is_within : Df := ⟨.g "is_within", "is_within", "is_within", defArgs (top 15), defBody (top 15), defScope (top 15)⟩
abbrev d_require_within : Df := ⟨.g "require_within", "require_within", "require_within", defArgs (top 16), defBody (top 16), defScope (top 16)⟩
abbrev d_common_of : Df := ⟨.g "common_of", "common_of", "common_of", defArgs (top 17), defBody (top 17), defScope (top 17)⟩
abbrev d_taken_out : Df := ⟨.g "taken_out", "taken_out", "taken_out", defArgs (top 18), defBody (top 18), defScope (top 18)⟩
abbrev d_factors_in : Df := ⟨.g "factors_in", "factors_in", "factors_in", defArgs (top 19), defBody (top 19), defScope (top 19)⟩
abbrev d_joined_in : Df := ⟨.g "joined_in", "joined_in", "joined_in", defArgs (top 26), defBody (top 26), defScope (top 26)⟩
abbrev d_are_integers : Df := ⟨.g "are_integers", "are_integers", "are_integers", defArgs (top 29), defBody (top 29), defScope (top 29)⟩
abbrev d_content_of : Df := ⟨.g "content_of", "content_of", "content_of", defArgs (top 30), defBody (top 30), defScope (top 30)⟩
abbrev d_double_told : Df := ⟨.g "double_told", "double_told", "double_told", defArgs (top 37), defBody (top 37), defScope (top 37)⟩
abbrev d_form_told : Df := ⟨.g "form_told", "form_told", "form_told", defArgs (top 59), defBody (top 59), defScope (top 59)⟩
abbrev d_KeptDouble__init_ : Df := ⟨.m .kd "__init__", "__init__", "KeptDouble.__init__", defArgs (inClass (top 35) 1), defBody (inClass (top 35) 1), defScope (inClass (top 35) 1)⟩
abbrev d_Double__init_ : Df := ⟨.m .db "__init__", "__init__", "Double.__init__", defArgs (inClass (top 36) 1), defBody (inClass (top 36) 1), defScope (inClass (top 36) 1)⟩
abbrev d_KeptForm__init_ : Df := ⟨.m .kf "__init__", "__init__", "KeptForm.__init__", defArgs (inClass (top 57) 1), defBody (inClass (top 57) 1), defScope (inClass (top 57) 1)⟩
abbrev d_Form__init_ : Df := ⟨.m .fm "__init__", "__init__", "Form.__init__", defArgs (inClass (top 58) 1), defBody (inClass (top 58) 1), defScope (inClass (top 58) 1)⟩
abbrev d_made_double : Df := ⟨.g "made_double", "made_double", "made_double", defArgs (top 38), defBody (top 38), defScope (top 38)⟩
abbrev d_made_form : Df := ⟨.g "made_form", "made_form", "made_form", defArgs (top 60), defBody (top 60), defScope (top 60)⟩
abbrev d_Double_content : Df := ⟨.p .db "content", "content", "Double.content", defArgs (inClass (top 36) 4), defBody (inClass (top 36) 4), defScope (inClass (top 36) 4)⟩
abbrev d_lowest_place : Df := ⟨.g "lowest_place", "lowest_place", "lowest_place", defArgs (top 41), defBody (top 41), defScope (top 41)⟩
abbrev d_places_of_double : Df := ⟨.g "places_of_double", "places_of_double", "places_of_double", defArgs (top 42), defBody (top 42), defScope (top 42)⟩
abbrev d_monic_at : Df := ⟨.g "monic_at", "monic_at", "monic_at", defArgs (top 43), defBody (top 43), defScope (top 43)⟩
abbrev d_bisected : Df := ⟨.g "bisected", "bisected", "bisected", defArgs (top 44), defBody (top 44), defScope (top 44)⟩
abbrev d_monic_roots : Df := ⟨.g "monic_roots", "monic_roots", "monic_roots", defArgs (top 45), defBody (top 45), defScope (top 45)⟩
abbrev d_places_of_cubic : Df := ⟨.g "places_of_cubic", "places_of_cubic", "places_of_cubic", defArgs (top 46), defBody (top 46), defScope (top 46)⟩
abbrev d_form_at : Df := ⟨.g "form_at", "form_at", "form_at", defArgs (top 53), defBody (top 53), defScope (top 53)⟩
abbrev d_form_led : Df := ⟨.g "form_led", "form_led", "form_led", defArgs (top 54), defBody (top 54), defScope (top 54)⟩
abbrev d_discriminant_of : Df := ⟨.g "discriminant_of", "discriminant_of", "discriminant_of", defArgs (top 55), defBody (top 55), defScope (top 55)⟩
abbrev d_hessian_of : Df := ⟨.g "hessian_of", "hessian_of", "hessian_of", defArgs (top 56), defBody (top 56), defScope (top 56)⟩
abbrev d_Form_coefficients : Df := ⟨.p .fm "coefficients", "coefficients", "Form.coefficients", defArgs (inClass (top 58) 3), defBody (inClass (top 58) 3), defScope (inClass (top 58) 3)⟩
abbrev d_Form_discriminant : Df := ⟨.p .fm "discriminant", "discriminant", "Form.discriminant", defArgs (inClass (top 58) 4), defBody (inClass (top 58) 4), defScope (inClass (top 58) 4)⟩
abbrev d_Form_hessian : Df := ⟨.p .fm "hessian", "hessian", "Form.hessian", defArgs (inClass (top 58) 6), defBody (inClass (top 58) 6), defScope (inClass (top 58) 6)⟩
abbrev d_require_other_than_zero : Df := ⟨.g "require_other_than_zero", "require_other_than_zero", "require_other_than_zero", defArgs (top 62), defBody (top 62), defScope (top 62)⟩
abbrev d_Form_roots : Df := ⟨.m .fm "roots", "roots", "Form.roots", defArgs (inClass (top 58) 11), defBody (inClass (top 58) 11), defScope (inClass (top 58) 11)⟩
abbrev d_require_form : Df := ⟨.g "require_form", "require_form", "require_form", defArgs (top 61), defBody (top 61), defScope (top 61)⟩
abbrev d_small_changes : Df := ⟨.g "small_changes", "small_changes", "small_changes", defArgs (top 69), defBody (top 69), defScope (top 69)⟩
abbrev d_way_to_small : Df := ⟨.g "way_to_small", "way_to_small", "way_to_small", defArgs (top 70), defBody (top 70), defScope (top 70)⟩
abbrev d_led_above : Df := ⟨.g "led_above", "led_above", "led_above", defArgs (top 71), defBody (top 71), defScope (top 71)⟩
abbrev d_least_of : Df := ⟨.g "least_of", "least_of", "least_of", defArgs (top 96), defBody (top 96), defScope (top 96)⟩
abbrev d_least_row : Df := ⟨.g "least_row", "least_row", "least_row", defArgs (top 97), defBody (top 97), defScope (top 97)⟩
abbrev d_least_made : Df := ⟨.g "least_made", "least_made", "least_made", defArgs (top 98), defBody (top 98), defScope (top 98)⟩
abbrev d_require_short : Df := ⟨.g "require_short", "require_short", "require_short", defArgs (top 99), defBody (top 99), defScope (top 99)⟩
abbrev d_is_least : Df := ⟨.g "is_least", "is_least", "is_least", defArgs (top 100), defBody (top 100), defScope (top 100)⟩
abbrev d_least_form : Df := ⟨.g "least_form", "least_form", "least_form", defArgs (top 101), defBody (top 101), defScope (top 101)⟩
abbrev d_places_at : Df := ⟨.g "places_at", "places_at", "places_at", defArgs (top 107), defBody (top 107), defScope (top 107)⟩
abbrev d_slope_at : Df := ⟨.g "slope_at", "slope_at", "slope_at", defArgs (top 108), defBody (top 108), defScope (top 108)⟩
abbrev d_is_heavy : Df := ⟨.g "is_heavy", "is_heavy", "is_heavy", defArgs (top 109), defBody (top 109), defScope (top 109)⟩
abbrev d_is_divided : Df := ⟨.g "is_divided", "is_divided", "is_divided", defArgs (top 110), defBody (top 110), defScope (top 110)⟩
abbrev d_require_stepped : Df := ⟨.g "require_stepped", "require_stepped", "require_stepped", defArgs (top 111), defBody (top 111), defScope (top 111)⟩
abbrev d_double_primes : Df := ⟨.g "double_primes", "double_primes", "double_primes", defArgs (top 112), defBody (top 112), defScope (top 112)⟩
abbrev d_bar_at : Df := ⟨.g "bar_at", "bar_at", "bar_at", defArgs (top 113), defBody (top 113), defScope (top 113)⟩
abbrev d_first_bar : Df := ⟨.g "first_bar", "first_bar", "first_bar", defArgs (top 114), defBody (top 114), defScope (top 114)⟩
abbrev d_bar : Df := ⟨.g "bar", "bar", "bar", defArgs (top 115), defBody (top 115), defScope (top 115)⟩
abbrev d_is_greatest : Df := ⟨.g "is_greatest", "is_greatest", "is_greatest", defArgs (top 116), defBody (top 116), defScope (top 116)⟩
abbrev d_turning_numbers : Df := ⟨.g "turning_numbers", "turning_numbers", "turning_numbers", defArgs (top 119), defBody (top 119), defScope (top 119)⟩
abbrev d_is_turning : Df := ⟨.g "is_turning", "is_turning", "is_turning", defArgs (top 120), defBody (top 120), defScope (top 120)⟩
abbrev d_is_product_of_parts : Df := ⟨.g "is_product_of_parts", "is_product_of_parts", "is_product_of_parts", defArgs (top 121), defBody (top 121), defScope (top 121)⟩
abbrev d_turning_forms_of : Df := ⟨.g "turning_forms_of", "turning_forms_of", "turning_forms_of", defArgs (top 122), defBody (top 122), defScope (top 122)⟩
abbrev d_square_fields : Df := ⟨.g "square_fields", "square_fields", "square_fields", defArgs (top 123), defBody (top 123), defScope (top 123)⟩
abbrev d__law_root : Df := ⟨.g "_law_root", "_law_root", "_law_root", defArgs (top 128), defBody (top 128), defScope (top 128)⟩
abbrev d__law_turning : Df := ⟨.g "_law_turning", "_law_turning", "_law_turning", defArgs (top 129), defBody (top 129), defScope (top 129)⟩
abbrev d__law_parts_of : Df := ⟨.g "_law_parts_of", "_law_parts_of", "_law_parts_of", defArgs (top 130), defBody (top 130), defScope (top 130)⟩
abbrev d__law_pairs : Df := ⟨.g "_law_pairs", "_law_pairs", "_law_pairs", defArgs (top 131), defBody (top 131), defScope (top 131)⟩
abbrev d__law_is_right : Df := ⟨.g "_law_is_right", "_law_is_right", "_law_is_right", defArgs (top 132), defBody (top 132), defScope (top 132)⟩
abbrev d__law_cask : Df := ⟨.g "_law_cask", "_law_cask", "_law_cask", defArgs (top 125), defBody (top 125), defScope (top 125)⟩
abbrev d__law_tap : Df := ⟨.g "_law_tap", "_law_tap", "_law_tap", defArgs (top 126), defBody (top 126), defScope (top 126)⟩
abbrev d__law_one : Df := ⟨.g "_law_one", "_law_one", "_law_one", defArgs (top 127), defBody (top 127), defScope (top 127)⟩
abbrev d__law_drawn : Df := ⟨.g "_law_drawn", "_law_drawn", "_law_drawn", defArgs (top 133), defBody (top 133), defScope (top 133)⟩
abbrev d_law : Df := ⟨.g "law", "law", "law", defArgs (top 134), defBody (top 134), defScope (top 134)⟩
def ds0 : List Df := [d_is_whole, d_is_integer, d_is_within, d_require_within, d_common_of, d_taken_out, d_factors_in, d_joined_in, d_are_integers, d_content_of, d_double_told, d_form_told, d_KeptDouble__init_, d_Double__init_, d_KeptForm__init_, d_Form__init_]
def ds1 : List Df := [d_made_double, d_made_form, d_Double_content, d_lowest_place, d_places_of_double, d_monic_at, d_bisected, d_monic_roots, d_places_of_cubic, d_form_at, d_form_led, d_discriminant_of, d_hessian_of, d_Form_coefficients, d_Form_discriminant, d_Form_hessian]
def ds2 : List Df := [d_require_other_than_zero, d_Form_roots, d_require_form, d_small_changes, d_way_to_small, d_led_above, d_least_of, d_least_row, d_least_made, d_require_short, d_is_least, d_least_form, d_places_at, d_slope_at, d_is_heavy, d_is_divided]
def ds3 : List Df := [d_require_stepped, d_double_primes, d_bar_at, d_first_bar, d_bar, d_is_greatest, d_turning_numbers, d_is_turning, d_is_product_of_parts, d_turning_forms_of, d_square_fields, d__law_root, d__law_turning, d__law_parts_of, d__law_pairs, d__law_is_right]
def ds4 : List Df := [d__law_cask, d__law_tap, d__law_one, d__law_drawn, d_law]
def dsL : List Df := ds0 ++ ds1 ++ ds2 ++ ds3 ++ ds4
end F79
set_option Elab.async false
set_option linter.all false
set_option maxRecDepth 100000
set_option maxHeartbeats 0
/-! Hk: what is looked at when the top has run. -/
namespace F79
open PySem PySem.Spec PyProof.Rows L2 DL
abbrev R : PySem.W.OpenRow := PySem.W.OpenLaw.row PySem.Challenge.rw_formrings_k79_whole_fields_of_square_dis
/-- a walk over what is reached, the visited ones as the bits of a number -/
def dfs (g : Addr → Option Obj) : Nat → List Addr → Nat → List Addr → List Addr
  | 0, _, _, acc => acc
  | _ + 1, [], _, acc => acc
  | n + 1, a :: q, m, acc => match Nat.testBit m a with
    | true => dfs g n q m acc
    | false => (match g a with
      | some o => dfs g n (He.refsO o ++ q) (Nat.lor m (Nat.shiftLeft 1 a)) (a :: acc)
      | none => dfs g n q m acc)
def valAt (g : Addr → Option Obj) (ns : List Str) : List Addr := match g mainGlobals with
  | some ⟨_, _, .dict es _, _⟩ => es.toList.flatMap fun e => (match e.key with
    | .str x _ => (match ns.contains x with
      | true => He.refV e.val
      | false => [])
    | _ => [])
  | _ => []
def reach (g : Addr → Option Obj) (ns : List Str) : List Addr := mainGlobals :: dfs g 20000 (valAt g ns) (Nat.shiftLeft 1 mainGlobals) []
def glos : List Fk → List Str
  | [] => []
  | .glo x :: fs => x :: glos fs
  | .con x _ :: fs => x :: glos fs
  | _ :: fs => glos fs
def tf : List He.Defn := [("bar_at", none), ("first_bar", none)]
def frK (g : Addr → Option Obj) : PySem.W.Frag := He.frT g (reach g (glos fsL))
def okB (g : Addr → Option Obj) (K : PySem.W.Frag) : Bool := (fsL.all fun f => f.ok K) && ((dsL.all fun d => d.ok K) && He.tabsB g tf K)
def fnB (K : PySem.W.Frag) : List He.FnW := dsL.map fun d => fnA K (plA K d.pl)
abbrev Al : Type := Bool × List He.FnW
def obF (g : Addr → Option Obj) : Al := (okB g (frK g), fnB (frK g))
def vlF : Al := (true, dsL.map Df.val)
def names0 : List Str := ["_wall", "__name__", "RingError", "InvalidForm", "InvalidChange", "InvalidDouble", "InvalidOperation", "ParseError", "InvalidNumber", "TooMany", "SIXTY_DIGITS", "is_whole", "is_integer", "is_within", "require_within", "common_of"]
def names1 : List Str := ["taken_out", "factors_in", "IDLE", "determinant_of", "are_two_pairs", "is_change_in", "require_change", "joined_in", "SIZE_doubles", "are_integers", "content_of", "numbers_text", "require_two_integers", "double_at", "double_led", "KeptDouble"]
def names2 : List Str := ["Double", "double_told", "made_double", "END_lines", "lowest_place", "places_of_double", "monic_at", "bisected", "monic_roots", "places_of_cubic", "SIZE_forms", "MOST_DIGITS_forms", "MINUS", "BETWEEN", "DIGITS", "form_at"]
def names3 : List Str := ["form_led", "discriminant_of", "hessian_of", "KeptForm", "Form", "form_told", "made_form", "require_form", "require_other_than_zero", "number_in", "numbers_in", "SWAPPED", "MIRRORED", "SIGNS", "small_changes", "way_to_small"]
def names4 : List Str := ["led_above", "EXCHANGE", "OPPOSITE_below", "MIRROR", "MIRROR_BACK", "Walk", "bezout", "end_change", "lead_with_root", "is_small", "is_between", "is_not_past", "best_shift", "lead_without_root", "led_below", "OPPOSITE_zero"]
def names5 : List Str := ["TURNED", "double_place", "with_first", "last_way", "led_zero", "MOST_DIGITS_least", "least_of", "least_row", "least_made", "require_short", "is_least", "least_form", "MAX_STEPPED", "END_steps", "CONTENT", "PLACE"]
def names6 : List Str := ["places_at", "slope_at", "is_heavy", "is_divided", "require_stepped", "double_primes", "bar_at", "first_bar", "bar", "is_greatest", "MAX_CONDUCTOR", "turning_numbers", "is_turning", "is_product_of_parts", "turning_forms_of", "square_fields"]
def names7 : List Str := ["_law_cask", "_law_tap", "_law_one", "_law_root", "_law_turning", "_law_parts_of", "_law_pairs", "_law_is_right", "_law_drawn"]
def names : List Str := names0 ++ names1 ++ names2 ++ names3 ++ names4 ++ names5 ++ names6 ++ names7
abbrev vw : Program := PySem.W.view R.prog [0, 134]
noncomputable abbrev whole (w : World) (M : Nat) := HandSHeadRun.wholeF (fun p => HandSHeadRun.stepQ (HandSHeadRun.denQ HandSHeadRun.tabQ) p w) HandSHeadRun.fenceQ M R.prog
end F79
set_option Elab.async false
set_option linter.all false
set_option maxRecDepth 100000
set_option maxHeartbeats 0
/-! Qd: the head runs. -/
namespace F79
open PySem PySem.Spec PyProof.Rows L2 DL
theorem h_c (w : World) : (whole w 9000).map (fun x => fsL.all fun f => f.ok (frK (HandSHeadRun.getT x.2))) = some true := by kernel_rfl
theorem h_e (w : World) : (whole w 9000).map (fun x => (dsL.all fun d => d.ok (frK (HandSHeadRun.getT x.2))) && He.tabsB (HandSHeadRun.getT x.2) tf (frK (HandSHeadRun.getT x.2))) = some true := by kernel_rfl
theorem h_d (w : World) : (whole w 9000).map (fun x => fnB (frK (HandSHeadRun.getT x.2))) = some (dsL.map Df.val) := by kernel_rfl
theorem h_b (w : World) : (whole w 9000).map (fun x => HandSHeadRun.seenQ vw names (importedModules R.prog.main.body) (fun s => PySem.W.xlAt vw [] s && PySem.W.recOk R.toRowW.records s) x.2.abs) = some (PySem.W.openGood vw names) := by kernel_rfl
theorem h_a (w : World) : (whole w 9000).map (fun x => HandSHeadRun.looksF R.prog x.1.heap x.2.abs) = some true := by kernel_rfl
end F79
set_option Elab.async false
set_option linter.all false
set_option maxRecDepth 100000
set_option maxHeartbeats 4000000
/-! DLa: data, what a heap says of data, the judgements over the readings. -/
namespace DL
open PySem PySem.Spec PyProof.Rows L2

/-- what a name holds, what an expression gives: data; a list that is one's own; a list of another; a set, a dict's keys -/
inductive W where
  | d (x : D) | own (ds : List D) | lst (ds : List D) | set (ds : List D) | dct (ds : List D)
abbrev Env := List (Option W)
abbrev M (α : Type) := Env → Option α

/-! ### how a heap holds data -/
mutual
def Rep (K : PySem.W.Frag) (H : Hp) : D → V → Prop
  | .non, v => v = .non
  | .bl b, v => v = .bl b
  | .int i, v => v = .int i
  | .str x, v => v = .str x
  | .tup ds, v => ∃ a xs, v = .ref a ∧ SqT K H a xs ∧ RepA K H ds xs
  | .obj c d, v => ∃ a dx x, v = .ref a ∧ H a = some (SlX.SlO a (ca K c) dx [some x]) ∧ H dx = some (.xd []) ∧ Rep K H d x
def RepA (K : PySem.W.Frag) (H : Hp) : List D → List V → Prop
  | [], [] => True
  | d :: ds, x :: xs => Rep K H d x ∧ RepA K H ds xs
  | _, _ => False
end
/-- what data is made of -/
def im : HO → Bool
  | .tup _ => true
  | .frz _ _ => true
  | .ext _ => true
  | .xd _ => true
  | .dT _ => true
  | _ => false
/-- it is kept -/
def Sta (H H' : Hp) : Prop := ∀ a o, H a = some o → im o = true → H' a = some o
theorem Sta.t {K : PySem.W.Frag} {H H' : Hp} (s : Sta H H') {a : Addr} {xs : List V} (h : SqT K H a xs) : SqT K H' a xs := by
  rcases h with (h | ⟨o, h⟩) | h
  · exact .inl (.inl (s _ _ h rfl))
  · exact .inl (.inr ⟨o, s _ _ h rfl⟩)
  · exact .inr h
mutual
theorem Rep.sta {K : PySem.W.Frag} {H H' : Hp} (s : Sta H H') : ∀ (d : D) (v : V), Rep K H d v → Rep K H' d v
  | .non, _, h => h
  | .bl _, _, h => h
  | .int _, _, h => h
  | .str _, _, h => h
  | .tup ds, v, h => by
    simp only [Rep] at h ⊢
    obtain ⟨a, xs, e, h1, h2⟩ := h
    exact ⟨a, xs, e, s.t h1, RepA.sta s ds xs h2⟩
  | .obj c d, v, h => by
    simp only [Rep] at h ⊢
    obtain ⟨a, dx, x, e, h1, h2, h3⟩ := h
    exact ⟨a, dx, x, e, s _ _ h1 rfl, s _ _ h2 rfl, Rep.sta s d x h3⟩
theorem RepA.sta {K : PySem.W.Frag} {H H' : Hp} (s : Sta H H') : ∀ (ds : List D) (xs : List V), RepA K H ds xs → RepA K H' ds xs
  | [], [], h => h
  | d :: ds, x :: xs, h => by
    simp only [RepA] at h ⊢
    exact ⟨Rep.sta s d x h.1, RepA.sta s ds xs h.2⟩
  | [], _ :: _, h => by simp only [RepA] at h
  | _ :: _, [], h => by simp only [RepA] at h
end

/-! ### what has grown -/
def Ex (H H' : Hp) : Prop := ∀ a o, H a = some o → H' a = some o ∨ (GxR.TabG H a ∧ GxR.TabG H' a)
theorem Ex.refl (H : Hp) : Ex H H := fun _ _ h => .inl h
theorem TabG.at {H H' : Hp} {a : Addr} (h : GxR.TabG H a) (e : H' a = H a) : GxR.TabG H' a := by
  obtain ⟨ps, h1, h2⟩ := h
  exact ⟨ps, e.trans h1, h2⟩
theorem Ex.trans {H H1 H2 : Hp} (a : Ex H H1) (b : Ex H1 H2) : Ex H H2 := fun x o h => by
  rcases a x o h with h1 | ⟨h1, h2⟩
  · rcases b x o h1 with h3 | ⟨h3, h4⟩
    · exact .inl h3
    · exact .inr ⟨TabG.at h3 (by rw [h, h1]), h4⟩
  · obtain ⟨ps, e, t⟩ := id h2
    rcases b x _ e with h3 | ⟨h3, h4⟩
    · exact .inr ⟨h1, ps, h3, t⟩
    · exact .inr ⟨h1, h4⟩
theorem Ex.new {H : Hp} {p : Addr} {o : HO} (h : H p = none) : Ex H (upd H p o) := fun a u e => by
  rw [upd_ne (ne_of_none e h)]
  exact .inl e
/-- an object that H does not know may change -/
theorem Ex.mut {H H' : Hp} {p : Addr} {o : HO} (e : Ex H H') (h : H p = none) : Ex H (upd H' p o) := fun a u ha => by
  have ne := ne_of_none ha h
  rcases e a u ha with z | ⟨z1, z2⟩
  · exact .inl (by rw [upd_ne ne]; exact z)
  · exact .inr ⟨z1, TabG.at z2 (upd_ne ne)⟩
theorem Ex.back {H H' : Hp} {p : Addr} (e : Ex H H') (h : H' p = none) : H p = none := by
  cases h1 : H p with
  | none => rfl
  | some o =>
    rcases e p o h1 with z | ⟨_, ps, z, _⟩
    · rw [h] at z
      cases z
    · rw [h] at z
      cases z
theorem Ex.at {H H' : Hp} {a : Addr} {o : HO} (e : Ex H H') (h : H a = some o) (n : ∀ ps, o ≠ .tbl ps) : H' a = some o := by
  rcases e a o h with z | ⟨⟨ps, z, _⟩, _⟩
  · exact z
  · rw [h] at z
    exact absurd (Option.some.inj z) (n ps)
theorem Ex.sta {H H' : Hp} (e : Ex H H') : Sta H H' := fun a o h n => e.at h fun ps z => by
  rw [z] at n
  cases n
theorem Ex.l {K : PySem.W.Frag} {H H' : Hp} (e : Ex H H') {a : Addr} {xs : List V} (h : SqL K H a xs) : SqL K H' a xs := by
  rcases h with (h | ⟨o, h⟩) | h
  · exact .inl (.inl (e.at h fun _ z => nomatch z))
  · exact .inl (.inr ⟨o, e.at h fun _ z => nomatch z⟩)
  · exact .inr h
theorem Ex.tab {H H' : Hp} (e : Ex H H') {P : Addr} (h : GxR.TabG H P) : GxR.TabG H' P := by
  obtain ⟨ps, h1, h2⟩ := h
  rcases e P _ h1 with z | ⟨_, z⟩
  · exact ⟨ps, z, h2⟩
  · exact z
theorem Ex.tabbed {H H' : Hp} {P : Addr} (h : GxR.TabG H P) (t : GxR.Tabbed P H H') : Ex H H' := fun a o e => by
  by_cases ha : a = P
  · subst ha
    exact .inr ⟨h, t.1⟩
  · exact .inl (by rw [t.2 a ha]; exact e)
theorem sta_lst {H : Hp} {p : Addr} {xs : List V} {o : HO} (h : H p = some (.lst xs)) : Sta H (upd H p o) := fun a u e n => by
  have ne : a ≠ p := fun z => by
    rw [z, h] at e
    rw [← Option.some.inj e] at n
    cases n
  rw [upd_ne ne]
  exact e

/-! ### what a name, a result holds -/
/-- the ints of a tuple -/
def intsD : List D → Option (List Int)
  | [] => some []
  | .int i :: ds => match intsD ds with
    | some is => some (i :: is)
    | none => none
  | _ :: _ => none
def keyD : D → Option (List Int)
  | .tup ds => intsD ds
  | _ => none
def keysD : List D → Option (List (List Int))
  | [] => some []
  | d :: ds => match keyD d with
    | some k => (match keysD ds with
      | some ks => some (k :: ks)
      | none => none)
    | none => none
/-- the rows of a dict that says True of each key -/
def rowsD (L : List (Addr × List Int)) : List (List Int × Addr × Value) := L.map fun p => (p.2, p.1, Value.bool true)
structure DctA (P : Program) (w : World) (h : Heap) (a : Addr) (L : List (Addr × List Int)) : Prop where
  lo : (a == sysModules) = false
  nd : (L.map (·.2)).Nodup
  few : L.length ≤ 60
  ex : ∃ (o : Obj) (es : Array DictEntry) (ep : Nat), h.get? a = some o ∧ o.ExactDict ∧ o.data = .dict es ep ∧ es.toList = (rowsD L).map (entryOfKey (tupleKind (intKind P w)))
/-- the dict at a, but for the keys' own objects -/
def DctO (P : Program) (w : World) (a : Addr) (L : List (Addr × List Int)) : HO := .ext fun h => DctA P w h a L
section
variable (P : Program) (w : World) (K : PySem.W.Frag)
def RepW (H : Hp) : W → V → Prop
  | .d x, v => Rep K H x v
  | .own ds, v => ∃ a xs, v = .ref a ∧ H a = some (.lst xs) ∧ RepA K H ds xs
  | .lst ds, v => ∃ a xs, v = .ref a ∧ SqL K H a xs ∧ RepA K H ds xs
  | .set ds, v => ∃ (a : Addr) (L : List (Addr × List Int)) (ks : List (List Int)), v = .ref a ∧ H a = some (SetTO P w a L) ∧ (∀ p ∈ L, SqT K H p.1 (p.2.map V.int)) ∧ keysD ds = some ks ∧ (L.map (·.2)).Perm ks
  | .dct ds, v => ∃ (a : Addr) (L : List (Addr × List Int)), v = .ref a ∧ H a = some (DctO P w a L) ∧ (∀ p ∈ L, SqT K H p.1 (p.2.map V.int)) ∧ keysD ds = some (L.map (·.2))
/-- what is new -/
def Fre (H : Hp) : W → V → Prop
  | .own _, v => ∀ a, v = .ref a → H a = none
  | _, _ => True
end
section
variable {P : Program} {w : World} {K : PySem.W.Frag}
theorem set_not {a : Addr} {L : List (Addr × List Int)} : (∀ xs, SetTO P w a L ≠ .lst xs) ∧ (∀ ps, SetTO P w a L ≠ .tbl ps) := by
  constructor
  · intro _ z
    unfold SetTO at z
    cases z
  · intro _ z
    unfold SetTO at z
    cases z
theorem dct_not {a : Addr} {L : List (Addr × List Int)} : ∀ ps, DctO P w a L ≠ .tbl ps := by
  intro _ z
  unfold DctO at z
  cases z
theorem RepW.ex {H H' : Hp} (e : Ex H H') : ∀ {x : W} {v : V}, RepW P w K H x v → RepW P w K H' x v
  | .d x, v, h => Rep.sta e.sta x v h
  | .own ds, v, h => by
    obtain ⟨a, xs, e1, h1, h2⟩ := h
    exact ⟨a, xs, e1, e.at h1 (fun _ z => nomatch z), RepA.sta e.sta _ _ h2⟩
  | .lst ds, v, h => by
    obtain ⟨a, xs, e1, h1, h2⟩ := h
    exact ⟨a, xs, e1, e.l h1, RepA.sta e.sta _ _ h2⟩
  | .set ds, v, h => by
    obtain ⟨a, L, ks, e1, h1, h2, h3, h4⟩ := h
    exact ⟨a, L, ks, e1, e.at h1 set_not.2, fun p hp => e.sta.t (h2 p hp), h3, h4⟩
  | .dct ds, v, h => by
    obtain ⟨a, L, e1, h1, h2, h3⟩ := h
    exact ⟨a, L, e1, e.at h1 dct_not, fun p hp => e.sta.t (h2 p hp), h3⟩
theorem Fre.ex {H H' : Hp} (e : Ex H H') : ∀ {x : W} {v : V}, Fre H' x v → Fre H x v
  | .d _, _, _ => trivial
  | .lst _, _, _ => trivial
  | .own _, _, h => fun a z => e.back (h a z)
  | .set _, _, _ => trivial
  | .dct _, _, _ => trivial
end

/-! ### the names -/
/-- the tables that generator expressions grow -/
def tabA (K : PySem.W.Frag) (x : Str) : Addr := (He.cT K (x, none)).2
def Tabs (K : PySem.W.Frag) (H : Hp) : Prop := GxR.TabG H (tabA K "bar_at") ∧ GxR.TabG H (tabA K "first_bar")
/-- what is no table may change -/
theorem Tabs.put {K : PySem.W.Frag} {H : Hp} (t : Tabs K H) {a : Addr} {o u : HO} (h : H a = some o) (n : ∀ ps, o ≠ .tbl ps) : Tabs K (upd H a u) := by
  have one : ∀ {P}, GxR.TabG H P → GxR.TabG (upd H a u) P := fun {P} g => TabG.at g (upd_ne fun z => by
    obtain ⟨ps, e, _⟩ := g
    rw [z, h] at e
    exact n ps (Option.some.inj e))
  exact ⟨one t.1, one t.2⟩
theorem Tabs.ex {K : PySem.W.Frag} {H H' : Hp} (t : Tabs K H) (e : Ex H H') : Tabs K H' := ⟨e.tab t.1, e.tab t.2⟩
structure RE (P : Program) (w : World) (K : PySem.W.Frag) (B : Hp) (ρ : Env) (σ : L2.St) (H : Hp) : Prop where
  ex : Ex B H
  tab : Tabs K H
  len : ρ.length = σ.length
  get : ∀ (i : Nat) (x : W), ρ[i]? = some (some x) → ∃ v, σ[i]? = some (some v) ∧ RepW P w K H x v ∧ Fre B x v
  base : ∀ (i : Nat) (ds : List D), ρ[i]? = some (some (.lst ds)) → ∃ v, σ[i]? = some (some v) ∧ RepW P w K B (.lst ds) v
  sep : ∀ (i j : Nat) (ds es : List D), i ≠ j → ρ[i]? = some (some (.own ds)) → ρ[j]? = some (some (.own es)) → ∀ v : V, σ[i]? = some (some v) → σ[j]? ≠ some (some v)
abbrev REX (X : Cx) (B : Hp) (ρ : Env) (σ : L2.St) (H : Hp) : Prop := RE X.prog X.w X.K B ρ σ H
abbrev RepX (X : Cx) (H H2 : Hp) (x : W) (v : V) : Prop := RepW X.prog X.w X.K H2 x v ∧ Fre H x v
section
variable {P : Program} {w : World} {K : PySem.W.Frag} {B H H' : Hp} {ρ : Env} {σ : L2.St}
theorem RE.mono (R : RE P w K B ρ σ H) (e : Ex H H') : RE P w K B ρ σ H' where
  ex := R.ex.trans e
  tab := R.tab.ex e
  len := R.len
  get := fun i x h => by
    obtain ⟨v, h1, h2, h3⟩ := R.get i x h
    exact ⟨v, h1, h2.ex e, h3⟩
  base := R.base
  sep := R.sep
end

/-! ### the judgements: a reading, and when it holds -/
def EvE (X : Cx) (t : TE) (m : M W) : Prop := ∀ ρ x B σ H Q, m ρ = some x → REX X B ρ σ H → (∀ v H2, Ex H H2 → RepX X H H2 x v → Q v H2) → t σ H Q
def EvT (X : Cx) (t : TT) (m : M Bool) : Prop := ∀ ρ b B σ H Q, m ρ = some b → REX X B ρ σ H → (∀ H2, Ex H H2 → Q b H2) → t σ H Q
/-- the values of an argument list: data, or lists -/
def RepWs (P : Program) (w : World) (K : PySem.W.Frag) (H : Hp) : List W → List V → Prop
  | [], [] => True
  | x :: xs, v :: vs => RepW P w K H x v ∧ RepWs P w K H xs vs
  | _, _ => False
def EvA (X : Cx) (t : TA) (m : M (List W)) : Prop := ∀ ρ xs B σ H Q, m ρ = some xs → REX X B ρ σ H → (∀ vs H2, Ex H H2 → RepWs X.prog X.w X.K H2 xs vs → Q vs H2) → t σ H Q
structure GE (X : Cx) (e : Expr) (m : M W) : Prop where
  ex : ∃ t, PE X e t ∧ EvE X t m
structure GT (X : Cx) (e : Expr) (m : M Bool) : Prop where
  ex : ∃ t, PT X e t ∧ EvT X t m
structure GW (X : Cx) (e : Expr) (m : M Bool) : Prop where
  ex : ∃ t, PW X e t ∧ EvT X t m
structure GA (X : Cx) (es : List Expr) (m : M (List W)) : Prop where
  ex : ∃ t, PA X es t ∧ EvA X t m
inductive Out where
  | nx (ρ : Env) | rt (x : W) | bk (ρ : Env) | ct (ρ : Env)
def OutOk (X : Cx) (B : Hp) (D : Ends) : Out → Prop
  | .nx ρ => ∀ σ H, REX X B ρ σ H → D.nx σ H
  | .rt x => ∀ v H, Ex B H → RepX X B H x v → D.rt v H
  | .bk ρ => ∀ σ H, REX X B ρ σ H → D.bk σ H
  | .ct ρ => ∀ σ H, REX X B ρ σ H → D.ct σ H
def EvS (X : Cx) (t : TS) (m : M Out) : Prop := ∀ ρ o B σ H D, m ρ = some o → REX X B ρ σ H → OutOk X B D o → t D σ H
structure GS (X : Cx) (st : Stmt) (m : M Out) : Prop where
  ex : ∃ t, PS X st t ∧ EvS X t m
structure GSs (X : Cx) (st : List Stmt) (m : M Out) : Prop where
  ex : ∃ t, PSs X st t ∧ EvS X t m
/-- a target: its names get the data -/
def EvG (X : Cx) (g : TG) (m : D → Env → Option Env) : Prop := ∀ ρ ρ' d v B σ H Q, m d ρ = some ρ' → Rep X.K H d v → REX X B ρ σ H → (∀ σ', REX X B ρ' σ' H → Q σ' H) → g v σ H Q
structure GG (X : Cx) (tg : Expr) (m : D → Env → Option Env) : Prop where
  ex : ∃ g, PG X tg g ∧ EvG X g m
end DL
set_option Elab.async false
set_option linter.all false
set_option maxRecDepth 100000
set_option maxHeartbeats 4000000
/-! DLb: expressions. -/
namespace DL
open PySem PySem.Spec PyProof.Rows L2

/-! ### mirrors -/
def mVar (i : Nat) : M W := fun ρ => match ρ[i]? with
  | some (some (.own ds)) => some (.lst ds)
  | some (some x) => some x
  | _ => none
def mC (x : W) : M W := fun _ => some x
def mOp (f : W → W → Option W) (a b : M W) : M W := fun ρ => match a ρ with
  | some x => (match b ρ with
    | some y => f x y
    | none => none)
  | none => none
def mUn (f : W → Option W) (a : M W) : M W := fun ρ => match a ρ with
  | some x => f x
  | none => none
def mAnd (a b : M Bool) : M Bool := fun ρ => match a ρ with
  | some true => b ρ
  | some false => some false
  | none => none
def mOr (a b : M Bool) : M Bool := fun ρ => match a ρ with
  | some true => some true
  | some false => b ρ
  | none => none
def mNot (a : M Bool) : M Bool := fun ρ => match a ρ with
  | some b => some (!b)
  | none => none
/-- a truth value as a test, and back -/
def mTest (a : M W) : M Bool := fun ρ => match a ρ with
  | some (.d (.bl b)) => some b
  | _ => none
def mBoo (a : M Bool) : M W := fun ρ => match a ρ with
  | some b => some (.d (.bl b))
  | none => none
def mIf (t : M Bool) (a b : M W) : M W := fun ρ => match t ρ with
  | some true => a ρ
  | some false => b ρ
  | none => none
def mNil : M (List W) := fun _ => some []
def mCons (a : M W) (r : M (List W)) : M (List W) := fun ρ => match a ρ with
  | some x => (match r ρ with
    | some xs => some (x :: xs)
    | none => none)
  | none => none
def datas : List W → Option (List D)
  | [] => some []
  | .d x :: xs => match datas xs with
    | some ds => some (x :: ds)
    | none => none
  | _ :: _ => none
def mTup (r : M (List W)) : M W := fun ρ => match r ρ with
  | some xs => (match datas xs with
    | some ds => (match Nat.ble ds.length 1000 with
      | true => some (.d (.tup ds))
      | false => none)
    | none => none)
  | none => none
def mLst (r : M (List W)) : M W := fun ρ => match r ρ with
  | some xs => (match datas xs with
    | some ds => (match Nat.ble ds.length 1000 with
      | true => some (.own ds)
      | false => none)
    | none => none)
  | none => none
def fAdd : W → W → Option W
  | .d (.int i), .d (.int j) => some (.d (.int (i + j)))
  | _, _ => none
def fSub : W → W → Option W
  | .d (.int i), .d (.int j) => some (.d (.int (i - j)))
  | _, _ => none
def fMul : W → W → Option W
  | .d (.int i), .d (.int j) => match Nat.blt (i.natAbs.log2 + j.natAbs.log2) 1000000 with
    | true => some (.d (.int (i * j)))
    | false => none
  | _, _ => none
def fDiv : W → W → Option W
  | .d (.int i), .d (.int j) => match decide (j ≠ 0) && Nat.blt j.natAbs 1073741824 with
    | true => some (.d (.int (i.fdiv j)))
    | false => none
  | _, _ => none
def fMod : W → W → Option W
  | .d (.int i), .d (.int j) => match decide (j ≠ 0) with
    | true => some (.d (.int (i.fmod j)))
    | false => none
  | _, _ => none
def fPow : W → W → Option W
  | .d (.int i), .d (.int j) => match decide (0 ≤ j) && decide (j ≤ 1000) && Nat.blt i.natAbs 18446744073709551616 with
    | true => some (.d (.int (i ^ j.toNat)))
    | false => none
  | _, _ => none
def fNeg : W → Option W
  | .d (.int i) => some (.d (.int (-i)))
  | _ => none
def fCmp (p : Int → Int → Bool) : W → W → Option W
  | .d (.int i), .d (.int j) => some (.d (.bl (p i j)))
  | _, _ => none
def fLt : W → W → Option W := fCmp fun i j => decide (i < j)
def fLe : W → W → Option W := fCmp fun i j => decide (i ≤ j)
def fGe : W → W → Option W := fCmp fun i j => decide (j ≤ i)
/-- >: of ints, of tuples of ints -/
def fGt : W → W → Option W
  | .d (.int i), .d (.int j) => some (.d (.bl (decide (j < i))))
  | .d (.tup xs), .d (.tup ys) => match intsD xs with
    | some is => (match intsD ys with
      | some js => some (.d (.bl (HT.lexLt js is)))
      | none => none)
    | none => none
  | _, _ => none
mutual
def D.py : D → Option PyData
  | .non => some .none
  | .bl b => some (.bool b)
  | .int i => some (.int i)
  | .str x => some (.str x)
  | .tup ds => match pyAll ds with
    | some ps => some (.tuple ps)
    | none => none
  | .obj _ _ => none
def pyAll : List D → Option (List PyData)
  | [] => some []
  | d :: ds => match d.py with
    | some p => (match pyAll ds with
      | some ps => some (p :: ps)
      | none => none)
    | none => none
end
def W.py : W → Option PyData
  | .d x => x.py
  | .own ds => match pyAll ds with
    | some ps => some (.list ps)
    | none => none
  | .lst ds => match pyAll ds with
    | some ps => some (.list ps)
    | none => none
  | _ => none
def fEqS (x y : W) : Option Bool := match x.py with
  | some p => (match y.py with
    | some q => (match SeqAt.shaped p && SeqAt.shaped q with
      | true => some (PyData.eqv p q)
      | false => none)
    | none => none)
  | none => none
def fEqB : W → W → Option Bool
  | .d (.int i), .d (.int j) => some (i == j)
  | x, y => fEqS x y
def fEq (x y : W) : Option W := match fEqB x y with
  | some b => some (.d (.bl b))
  | none => none
def fNe (x y : W) : Option W := match fEqB x y with
  | some b => some (.d (.bl (!b)))
  | none => none
/-- x in t, an int in a tuple of ints -/
def fIn : W → W → Option W
  | .d (.int i), .d (.tup ds) => match intsD ds with
    | some is => some (.d (.bl (is.any fun j => j == i)))
    | none => none
  | _, _ => none
def isNon : D → Bool
  | .non => true
  | _ => false
def fIsN : W → W → Option W
  | .d x, .d .non => some (.d (.bl (isNon x)))
  | _, _ => none
def fNotN : W → W → Option W
  | .d x, .d .non => some (.d (.bl (!isNon x)))
  | _, _ => none
/-- t[i] -/
def fIx : W → W → Option W
  | .d (.tup ds), .d (.int (.ofNat i)) => match ds[i]? with
    | some x => some (.d x)
    | none => none
  | _, _ => none

/-! ### small facts -/
section
variable {P : Program} {w : World} {K : PySem.W.Frag} {H H1 H2 : Hp}
theorem rep_int {i : Int} {v : V} (h : RepW P w K H (.d (.int i)) v) : v = .int i := by
  have h' : Rep K H (.int i) v := h
  simpa only [Rep] using h'
theorem rep_bl {b : Bool} {v : V} (h : RepW P w K H (.d (.bl b)) v) : v = .bl b := by
  have h' : Rep K H (.bl b) v := h
  simpa only [Rep] using h'
theorem rep_non {v : V} (h : RepW P w K H (.d .non) v) : v = .non := by
  have h' : Rep K H .non v := h
  simpa only [Rep] using h'
theorem rep_tup {ds : List D} {v : V} (h : RepW P w K H (.d (.tup ds)) v) : ∃ a xs, v = .ref a ∧ SqT K H a xs ∧ RepA K H ds xs := by
  have h' : Rep K H (.tup ds) v := h
  simpa only [Rep] using h'
theorem int_rep {i : Int} : RepW P w K H (.d (.int i)) (.int i) := by
  show Rep K H (.int i) (.int i)
  simp only [Rep]
theorem bl_rep {b : Bool} : RepW P w K H (.d (.bl b)) (.bl b) := by
  show Rep K H (.bl b) (.bl b)
  simp only [Rep]
theorem non_rep : RepW P w K H (.d .non) .non := by
  show Rep K H .non .non
  simp only [Rep]
theorem str_rep {x : Str} : RepW P w K H (.d (.str x)) (.str x) := by
  show Rep K H (.str x) (.str x)
  simp only [Rep]
theorem tup_rep {ds : List D} {a : Addr} {xs : List V} (h : SqT K H a xs) (r : RepA K H ds xs) : RepW P w K H (.d (.tup ds)) (.ref a) := by
  show Rep K H (.tup ds) (.ref a)
  simp only [Rep]
  exact ⟨a, xs, rfl, h, r⟩
theorem repA_len : ∀ {ds : List D} {xs : List V}, RepA K H ds xs → xs.length = ds.length
  | [], [], _ => rfl
  | d :: ds, x :: xs, h => by
    simp only [RepA] at h
    rw [List.length_cons, List.length_cons, repA_len h.2]
  | [], _ :: _, h => by simp only [RepA] at h
  | _ :: _, [], h => by simp only [RepA] at h
theorem repA_get : ∀ {ds : List D} {xs : List V} {i : Nat} {d : D}, RepA K H ds xs → ds[i]? = some d → ∃ x, xs[i]? = some x ∧ Rep K H d x
  | [], _, i, d, _, e => by simp at e
  | d :: ds, x :: xs, 0, d', h, e => by
    simp only [RepA] at h
    simp at e
    subst e
    exact ⟨x, rfl, h.1⟩
  | d :: ds, x :: xs, i + 1, d', h, e => by
    simp only [RepA] at h
    obtain ⟨y, h1, h2⟩ := repA_get (i := i) h.2 (by simpa using e)
    exact ⟨y, by simpa using h1, h2⟩
  | _ :: _, [], i, d, h, e => by simp only [RepA] at h
theorem repA_ints : ∀ {ds : List D} {xs : List V} {is : List Int}, RepA K H ds xs → intsD ds = some is → xs = is.map V.int
  | [], [], is, _, e => by
    simp only [intsD] at e
    cases e
    rfl
  | [], _ :: _, _, h, _ => by simp only [RepA] at h
  | d :: ds, [], is, h, e => by simp only [RepA] at h
  | d :: ds, x :: xs, is, h, e => by
    simp only [RepA] at h
    cases d with
    | int i =>
      simp only [intsD] at e
      cases q : intsD ds with
      | none =>
        rw [q] at e
        cases e
      | some is' =>
        rw [q] at e
        cases e
        have h1 := h.1
        simp only [Rep] at h1
        rw [h1, repA_ints h.2 q, List.map_cons]
    | _ => simp only [intsD] at e; cases e
theorem ints_repA : ∀ {ds : List D} {is : List Int}, intsD ds = some is → RepA K H ds (is.map V.int)
  | [], is, e => by
    simp only [intsD] at e
    cases e
    simp only [RepA, List.map_nil]
  | d :: ds, is, e => by
    cases d with
    | int i =>
      simp only [intsD] at e
      cases q : intsD ds with
      | none =>
        rw [q] at e
        cases e
      | some is' =>
        rw [q] at e
        cases e
        simp only [RepA, List.map_cons, Rep, true_and]
        exact ints_repA q
    | _ => simp only [intsD] at e; cases e
theorem repA_app : ∀ {ds es : List D} {xs ys : List V}, RepA K H ds xs → RepA K H es ys → RepA K H (ds ++ es) (xs ++ ys)
  | [], _, [], _, _, h => h
  | d :: ds, es, x :: xs, ys, h, h2 => by
    simp only [RepA] at h
    simp only [List.cons_append, RepA]
    exact ⟨h.1, repA_app h.2 h2⟩
  | [], _, _ :: _, _, h, _ => by simp only [RepA] at h
  | _ :: _, _, [], _, h, _ => by simp only [RepA] at h
theorem repWs_ex (e : Ex H H1) : ∀ {xs : List W} {vs : List V}, RepWs P w K H xs vs → RepWs P w K H1 xs vs
  | [], [], h => h
  | x :: xs, v :: vs, h => by
    simp only [RepWs] at h ⊢
    exact ⟨h.1.ex e, repWs_ex e h.2⟩
  | [], _ :: _, h => by simp only [RepWs] at h
  | _ :: _, [], h => by simp only [RepWs] at h
theorem repWs_datas : ∀ {xs : List W} {vs : List V} {ds : List D}, RepWs P w K H xs vs → datas xs = some ds → RepA K H ds vs
  | [], [], ds, _, e => by
    simp only [datas] at e
    cases e
    simp only [RepA]
  | [], _ :: _, _, h, _ => by simp only [RepWs] at h
  | x :: xs, [], _, h, _ => by simp only [RepWs] at h
  | x :: xs, v :: vs, ds, h, e => by
    simp only [RepWs] at h
    cases x with
    | d y =>
      simp only [datas] at e
      cases q : datas xs with
      | none =>
        rw [q] at e
        cases e
      | some ds' =>
        rw [q] at e
        cases e
        simp only [RepA]
        exact ⟨h.1, repWs_datas h.2 q⟩
    | _ => simp only [datas] at e; cases e
mutual
theorem rep_py : ∀ (d : D) (v : V) (p : PyData), Rep K H d v → d.py = some p → Dp K H v p
  | .non, v, p, h, e => by
    simp only [Rep] at h
    simp only [D.py] at e
    cases e
    rw [h]
    exact .non
  | .bl b, v, p, h, e => by
    simp only [Rep] at h
    simp only [D.py] at e
    cases e
    rw [h]
    exact .bl b
  | .int i, v, p, h, e => by
    simp only [Rep] at h
    simp only [D.py] at e
    cases e
    rw [h]
    exact .int i
  | .str x, v, p, h, e => by
    simp only [Rep] at h
    simp only [D.py] at e
    cases e
    rw [h]
    exact .str x
  | .tup ds, v, p, h, e => by
    simp only [Rep] at h
    obtain ⟨a, xs, ev, h1, h2⟩ := h
    simp only [D.py] at e
    cases q : pyAll ds with
    | none =>
      rw [q] at e
      cases e
    | some ps =>
      rw [q] at e
      cases e
      rw [ev]
      exact .tup h1 (rep_pyA ds xs ps h2 q)
  | .obj _ _, v, p, h, e => by
    simp only [D.py] at e
    cases e
theorem rep_pyA : ∀ (ds : List D) (xs : List V) (ps : List PyData), RepA K H ds xs → pyAll ds = some ps → DpAll K H xs ps
  | [], [], ps, _, e => by
    simp only [pyAll] at e
    cases e
    exact .nil
  | [], _ :: _, _, h, _ => by simp only [RepA] at h
  | _ :: _, [], _, h, _ => by simp only [RepA] at h
  | d :: ds, x :: xs, ps, h, e => by
    simp only [RepA] at h
    simp only [pyAll] at e
    cases q : d.py with
    | none =>
      rw [q] at e
      cases e
    | some p =>
      rw [q] at e
      cases q2 : pyAll ds with
      | none =>
        rw [q2] at e
        cases e
      | some ps' =>
        rw [q2] at e
        cases e
        exact .cons (rep_py d x p h.1 q) (rep_pyA ds xs ps' h.2 q2)
end
theorem repW_py : ∀ (x : W) (v : V) (p : PyData), RepW P w K H x v → x.py = some p → Dp K H v p
  | .d x, v, p, h, e => rep_py x v p h e
  | .own ds, v, p, h, e => by
    obtain ⟨a, xs, ev, h1, h2⟩ := h
    simp only [W.py] at e
    cases q : pyAll ds with
    | none =>
      rw [q] at e
      cases e
    | some ps =>
      rw [q] at e
      cases e
      rw [ev]
      exact .lst (SqL.of h1) (rep_pyA ds xs ps h2 q)
  | .lst ds, v, p, h, e => by
    obtain ⟨a, xs, ev, h1, h2⟩ := h
    simp only [W.py] at e
    cases q : pyAll ds with
    | none =>
      rw [q] at e
      cases e
    | some ps =>
      rw [q] at e
      cases e
      rw [ev]
      exact .lst h1 (rep_pyA ds xs ps h2 q)
  | .set _, _, _, _, e => by simp only [W.py] at e; cases e
  | .dct _, _, _, _, e => by simp only [W.py] at e; cases e
theorem rep_isNon : ∀ (d : D) (v : V), Rep K H d v → decide (v = .non) = isNon d
  | .non, v, h => by
    simp only [Rep] at h
    rw [h]
    rfl
  | .bl _, v, h => by
    simp only [Rep] at h
    rw [h]
    rfl
  | .int _, v, h => by
    simp only [Rep] at h
    rw [h]
    rfl
  | .str _, v, h => by
    simp only [Rep] at h
    rw [h]
    rfl
  | .tup _, v, h => by
    simp only [Rep] at h
    obtain ⟨a, _, e, _⟩ := h
    rw [e]
    rfl
  | .obj _ _, v, h => by
    simp only [Rep] at h
    obtain ⟨a, _, _, e, _⟩ := h
    rw [e]
    rfl
end

/-! ### operations on values -/
def OpS (X : Cx) (F : Value → Value → Sem Value) (f : W → W → Option W) : Prop := ∃ r : R2, OpR X F r ∧ ∀ x y z H v u Q, f x y = some z → RepW X.prog X.w X.K H x v → RepW X.prog X.w X.K H y u →
  (∀ v' H2, Ex H H2 → RepX X H H2 z v' → Q v' H2) → r v u H Q
section
variable {X : Cx}
theorem os_I0 {F : Value → Value → Sem Value} {g : Int → Int → V} {k : Int → Int → D} {f : W → W → Option W} (o : OpR X F (rI0 g)) (hf : ∀ x y z, f x y = some z → ∃ i j, x = .d (.int i) ∧ y = .d (.int j) ∧ z = .d (k i j))
    (hg : ∀ i j H, Rep X.K H (k i j) (g i j)) : OpS X F f := ⟨_, o, fun x y z H v u Q e hx hy q => by
  obtain ⟨i, j, rfl, rfl, rfl⟩ := hf x y z e
  exact ⟨i, j, rep_int hx, rep_int hy, q _ _ (Ex.refl H) ⟨hg i j H, trivial⟩⟩⟩
theorem os_I {F : Value → Value → Sem Value} {C : Int → Int → Prop} {g : Int → Int → V} {k : Int → Int → D} {f : W → W → Option W} (o : OpR X F (rI C g)) (hf : ∀ x y z, f x y = some z → ∃ i j, x = .d (.int i) ∧ y = .d (.int j) ∧ z = .d (k i j) ∧ C i j)
    (hg : ∀ i j H, Rep X.K H (k i j) (g i j)) : OpS X F f := ⟨_, o, fun x y z H v u Q e hx hy q => by
  obtain ⟨i, j, rfl, rfl, rfl, hc⟩ := hf x y z e
  exact ⟨i, j, rep_int hx, rep_int hy, hc, q _ _ (Ex.refl H) ⟨hg i j H, trivial⟩⟩⟩
theorem hgI {k : Int → Int → Int} (i j : Int) (H : Hp) : Rep X.K H (.int (k i j)) (.int (k i j)) := by simp only [Rep]
theorem hgB {k : Int → Int → Bool} (i j : Int) (H : Hp) : Rep X.K H (.bl (k i j)) (.bl (k i j)) := by simp only [Rep]
theorem os_add : OpS X (binaryOp .Add) fAdd := os_I0 (k := fun i j => .int (i + j)) op_add (fun x y z e => by unfold fAdd at e; split at e <;> cases e; exact ⟨_, _, rfl, rfl, rfl⟩) hgI
theorem os_sub : OpS X (binaryOp .Sub) fSub := os_I0 (k := fun i j => .int (i - j)) op_sub (fun x y z e => by unfold fSub at e; split at e <;> cases e; exact ⟨_, _, rfl, rfl, rfl⟩) hgI
theorem os_mul : OpS X (binaryOp .Mult) fMul := os_I (k := fun i j => .int (i * j)) op_mulW (fun x y z e => by
  unfold fMul at e
  split at e
  · split at e
    · cases e
      rename_i h
      exact ⟨_, _, rfl, rfl, rfl, Nat.le_of_ble_eq_true h⟩
    · cases e
  · cases e) hgI
theorem os_div : OpS X (binaryOp .FloorDiv) fDiv := os_I (k := fun i j => .int (i.fdiv j)) op_fdivN (fun x y z e => by
  unfold fDiv at e
  split at e
  · split at e
    · cases e
      rename_i h
      obtain ⟨h1, h2⟩ := Bool.and_eq_true_iff.mp h
      exact ⟨_, _, rfl, rfl, rfl, of_decide_eq_true h1, Nat.le_of_ble_eq_true h2⟩
    · cases e
  · cases e) hgI
theorem os_mod : OpS X (binaryOp .Mod) fMod := os_I (k := fun i j => .int (i.fmod j)) op_modN (fun x y z e => by
  unfold fMod at e
  split at e
  · split at e
    · cases e
      rename_i h
      exact ⟨_, _, rfl, rfl, rfl, of_decide_eq_true h⟩
    · cases e
  · cases e) hgI
theorem os_pow : OpS X (binaryOp .Pow) fPow := os_I (k := fun i j => .int (i ^ j.toNat)) op_pow (fun x y z e => by
  unfold fPow at e
  split at e
  · split at e
    · cases e
      rename_i h
      obtain ⟨h1, h3⟩ := Bool.and_eq_true_iff.mp h
      obtain ⟨h1, h2⟩ := Bool.and_eq_true_iff.mp h1
      have h2 := of_decide_eq_true h2
      exact ⟨_, _, rfl, rfl, rfl, of_decide_eq_true h1, by omega, Nat.lt_of_lt_of_le (Nat.le_of_ble_eq_true h3) (by decide)⟩
    · cases e
  · cases e) hgI
theorem os_cmp {F : Value → Value → Sem Value} {p : Int → Int → Bool} (o : OpR X F (rI0 fun i j => .bl (p i j))) : OpS X F (fCmp p) := os_I0 (k := fun i j => .bl (p i j)) o (fun x y z e => by unfold fCmp at e; split at e <;> cases e; exact ⟨_, _, rfl, rfl, rfl⟩) hgB
theorem os_lt : OpS X (compareOp .Lt) fLt := os_cmp op_lt
theorem os_le : OpS X (compareOp .LtE) fLe := os_cmp op_le
theorem os_ge : OpS X (compareOp .GtE) fGe := os_cmp op_ge
theorem fEqB_some {x y : W} {b : Bool} (e : fEqB x y = some b) : ∃ p q, x.py = some p ∧ y.py = some q ∧ SeqAt.shaped p = true ∧ SeqAt.shaped q = true ∧ b = PyData.eqv p q := by
  unfold fEqB at e
  split at e
  · rename_i i j
    cases e
    exact ⟨.int i, .int j, rfl, rfl, rfl, rfl, by simp only [PyData.eqv]⟩
  unfold fEqS at e
  split at e
  · rename_i p hp
    split at e
    · rename_i q hq
      split at e
      · rename_i h
        obtain ⟨h1, h2⟩ := Bool.and_eq_true_iff.mp h
        cases e
        exact ⟨p, q, hp, hq, h1, h2, rfl⟩
      · cases e
    · cases e
  · cases e
theorem os_eq (hu : X.A.units + 64 < cLine) : OpS X (compareOp .Eq) fEq := ⟨_, op_eqD hu, fun x y z H v u Q e hx hy q => by
  unfold fEq at e
  split at e
  · rename_i b hb
    cases e
    obtain ⟨p, r, h1, h2, h3, h4, rfl⟩ := fEqB_some hb
    exact ⟨p, r, repW_py x v p hx h1, repW_py y u r hy h2, h3, h4, q _ _ (Ex.refl H) ⟨bl_rep, trivial⟩⟩
  · cases e⟩
theorem os_ne (hu : X.A.units + 64 < cLine) : OpS X (compareOp .NotEq) fNe := ⟨_, op_neD hu, fun x y z H v u Q e hx hy q => by
  unfold fNe at e
  split at e
  · rename_i b hb
    cases e
    obtain ⟨p, r, h1, h2, h3, h4, rfl⟩ := fEqB_some hb
    exact ⟨p, r, repW_py x v p hx h1, repW_py y u r hy h2, h3, h4, q _ _ (Ex.refl H) ⟨bl_rep, trivial⟩⟩
  · cases e⟩
theorem os_isN : OpS X (compareOp .Is) fIsN := ⟨_, op_isN, fun x y z H v u Q e hx hy q => by
  unfold fIsN at e
  split at e
  · cases e
    refine ⟨rep_non hy, ?_⟩
    rw [rep_isNon _ v hx]
    exact q _ _ (Ex.refl H) ⟨bl_rep, trivial⟩
  · cases e⟩
theorem os_notN : OpS X (compareOp .IsNot) fNotN := ⟨_, op_notN, fun x y z H v u Q e hx hy q => by
  unfold fNotN at e
  split at e
  · cases e
    refine ⟨rep_non hy, ?_⟩
    rw [rep_isNon _ v hx]
    exact q _ _ (Ex.refl H) ⟨bl_rep, trivial⟩
  · cases e⟩
theorem inV_ints (i : Int) : ∀ is : List Int, inV (.int i) (is.map V.int) = is.any fun j => j == i
  | [] => rfl
  | j :: is => by
    have h := inV_ints i is
    unfold inV at h ⊢
    rw [List.map_cons, List.any_cons, List.any_cons, h]
    rfl
theorem flat_ints : ∀ is : List Int, (is.map V.int).all flatV = true
  | [] => rfl
  | j :: is => by
    rw [List.map_cons, List.all_cons, flat_ints is]
    rfl
theorem os_in : OpS X (compareOp .In) fIn := ⟨_, op_in_seq, fun x y z H v u Q e hx hy q => by
  unfold fIn at e
  split at e
  · split at e
    · rename_i i ds is hi
      cases e
      obtain ⟨a, xs, rfl, h1, h2⟩ := rep_tup hy
      have ex := repA_ints h2 hi
      subst ex
      refine ⟨a, _, rfl, .inr h1, by rw [rep_int hx]; rfl, flat_ints is, ?_⟩
      show Q (.bl (inV v (is.map V.int))) H
      rw [rep_int hx, inV_ints]
      exact q _ _ (Ex.refl H) ⟨bl_rep, trivial⟩
    · cases e
  · cases e⟩

/-! ### expressions -/
variable {a b e : Expr} {ma mb m : M W} {es : List Expr} {ml : M (List W)} {pos : Pos}
theorem ge_var (i : Nat) {x : Str} (hN : X.N[i]? = some x := by rfl) (hv : Vis X.env.scope x := by first | exact Or.inl rfl | exact Or.inr (Or.inl rfl) | exact Or.inr (Or.inr rfl)) (hd : (x == ("__debug__" : Str)) = false := by decide)
    (hcd : (x == ("__classdict__" : Str)) = false := by decide) : GE X (.Name x pos) (mVar i) := ⟨_, pe_var hN hv hd hcd, fun ρ x B σ H Q e R q => by
  unfold mVar at e
  split at e
  · rename_i ds hi
    cases e
    obtain ⟨v, h1, ⟨a, xs, ev, h2, h3⟩, _⟩ := R.get i _ hi
    exact ⟨v, h1, q _ _ (Ex.refl H) ⟨⟨a, xs, ev, SqL.of h2, h3⟩, trivial⟩⟩
  · rename_i y hn hi
    cases e
    obtain ⟨v, h1, h2, h3⟩ := R.get i _ hi
    refine ⟨v, h1, q _ _ (Ex.refl H) ⟨h2, ?_⟩⟩
    cases x with
    | own ds => exact (hn ds rfl).elim
    | _ => trivial
  · cases e⟩
theorem ge_c {v : V} {x : W} (h : PE X e (tC v)) (r : ∀ H, RepW X.prog X.w X.K H x v) (n : ∀ ds, x ≠ .own ds) : GE X e (mC x) := ⟨_, h, fun ρ y B σ H Q e R q => by
  unfold mC at e
  cases e
  refine q _ _ (Ex.refl H) ⟨r H, ?_⟩
  cases x with
  | own ds => exact (n ds rfl).elim
  | _ => trivial⟩
theorem ge_int {i : Int} {j} : GE X (.Constant (.int i) j pos) (mC (.d (.int i))) := ge_c pe_int (fun _ => int_rep) (fun _ z => nomatch z)
theorem ge_bl {b : Bool} {j} : GE X (.Constant (.bool b) j pos) (mC (.d (.bl b))) := ge_c pe_bl (fun _ => bl_rep) (fun _ z => nomatch z)
theorem ge_non {j} : GE X (.Constant .none j pos) (mC (.d .non)) := ge_c pe_non (fun _ => non_rep) (fun _ z => nomatch z)
theorem ge_str {x : Str} {j} : GE X (.Constant (.str x) j pos) (mC (.d (.str x))) := ge_c pe_str (fun _ => str_rep) (fun _ z => nomatch z)
/-- a constant of the module -/
theorem ge_gl {x : Str} {v : V} {u : Value} {y : D} (hg : Gl X x) (hm : X.mg x = some u) (r : RelV v u) (hy : ∀ H, Rep X.K H y v) (hd : (x == ("__debug__" : Str)) = false := by decide) : GE X (.Name x pos) (mC (.d y)) := ge_c (pe_glob hg hm r hd) hy (fun _ z => nomatch z)
theorem mOp_some {f : W → W → Option W} {ρ : Env} {z : W} (h : mOp f ma mb ρ = some z) : ∃ x y, ma ρ = some x ∧ mb ρ = some y ∧ f x y = some z := by
  unfold mOp at h
  split at h
  · rename_i x hx
    split at h
    · rename_i y hy
      exact ⟨x, y, hx, hy, h⟩
    · cases h
  · cases h
theorem mUn_some {f : W → Option W} {ρ : Env} {z : W} (h : mUn f ma ρ = some z) : ∃ x, ma ρ = some x ∧ f x = some z := by
  unfold mUn at h
  split at h
  · rename_i x hx
    exact ⟨x, hx, h⟩
  · cases h
theorem RepX.ex {X : Cx} {H H1 H2 : Hp} {x : W} {v : V} (e : Ex H H1) (h : RepX X H1 H2 x v) : RepX X H H2 x v := ⟨h.1, h.2.ex e⟩
theorem ge_op {op : Operator} {f : W → W → Option W} (o : OpS X (binaryOp op) f) (ha : GE X a ma) (hb : GE X b mb) : GE X (.BinOp a op b pos) (mOp f ma mb) := by
  obtain ⟨r, hr, o⟩ := o
  obtain ⟨ta, pa, ea⟩ := ha.ex
  obtain ⟨tb, pb, eb⟩ := hb.ex
  refine ⟨_, pe_op hr pa pb, fun ρ z B σ H Q e R q => ?_⟩
  obtain ⟨x, y, hx, hy, hf⟩ := mOp_some e
  refine ea ρ x B σ H _ hx R fun v H1 e1 r1 => ?_
  refine eb ρ y B σ H1 _ hy (R.mono e1) fun u H2 e2 r2 => ?_
  exact o x y z H2 v u Q hf (r1.1.ex e2) r2.1 fun v' H3 e3 r3 => q v' H3 ((e1.trans e2).trans e3) (RepX.ex (e1.trans e2) r3)
theorem ge_cmp {op : CmpOp} {f : W → W → Option W} (o : OpS X (compareOp op) f) (ha : GE X a ma) (hb : GE X b mb) (hm : behindInMarks op b = false) : GE X (.Compare a [op] [b] pos) (mOp f ma mb) := by
  obtain ⟨r, hr, o⟩ := o
  obtain ⟨ta, pa, ea⟩ := ha.ex
  obtain ⟨tb, pb, eb⟩ := hb.ex
  refine ⟨_, pe_cmpR hr pa pb hm, fun ρ z B σ H Q e R q => ?_⟩
  obtain ⟨x, y, hx, hy, hf⟩ := mOp_some e
  refine ea ρ x B σ H _ hx R fun v H1 e1 r1 => ?_
  refine eb ρ y B σ H1 _ hy (R.mono e1) fun u H2 e2 r2 => ?_
  exact o x y z H2 v u Q hf (r1.1.ex e2) r2.1 fun v' H3 e3 r3 => q v' H3 ((e1.trans e2).trans e3) (RepX.ex (e1.trans e2) r3)
theorem mTest_some {ρ : Env} {c : Bool} (h : mTest ma ρ = some c) : ma ρ = some (.d (.bl c)) := by
  unfold mTest at h
  split at h
  · rename_i b hb
    cases h
    exact hb
  · cases h
theorem gt_cmp {op : CmpOp} {f : W → W → Option W} (o : OpS X (compareOp op) f) (ha : GE X a ma) (hb : GE X b mb) (hm : behindInMarks op b = false) : GT X (.Compare a [op] [b] pos) (mTest (mOp f ma mb)) := by
  obtain ⟨r, hr, o⟩ := o
  obtain ⟨ta, pa, ea⟩ := ha.ex
  obtain ⟨tb, pb, eb⟩ := hb.ex
  refine ⟨_, pt_cmpR hr pa pb hm, fun ρ c B σ H Q e R q => ?_⟩
  obtain ⟨x, y, hx, hy, hf⟩ := mOp_some (mTest_some e)
  refine ea ρ x B σ H _ hx R fun v H1 e1 r1 => ?_
  refine eb ρ y B σ H1 _ hy (R.mono e1) fun u H2 e2 r2 => ?_
  exact o x y _ H2 v u _ hf (r1.1.ex e2) r2.1 fun v' H3 e3 r3 => ⟨c, rep_bl r3.1, q H3 ((e1.trans e2).trans e3)⟩
theorem gt_val (ha : GE X a ma) (he : ∀ whole, isTrue a X.env whole = (do let v ← whole; standAt a.pos; holding [v] (truthy v)) := by intro _; rfl) : GT X a (mTest ma) := by
  obtain ⟨ta, pa, ea⟩ := ha.ex
  refine ⟨_, pt_val pa he, fun ρ c B σ H Q e R q => ?_⟩
  exact ea ρ _ B σ H _ (mTest_some e) R fun v H1 e1 r1 => ⟨c, rep_bl r1.1, q H1 e1⟩
theorem ge_un {op : UnaryOp} {r : V → Hp → VK → Prop} {f : W → Option W} (o : UnR X (unaryOp op) r) (hf : ∀ x z H v Q, f x = some z → RepW X.prog X.w X.K H x v → (∀ v' H2, Ex H H2 → RepX X H H2 z v' → Q v' H2) → r v H Q) (ha : GE X a ma) : GE X (.UnaryOp op a pos) (mUn f ma) := by
  obtain ⟨ta, pa, ea⟩ := ha.ex
  refine ⟨_, pe_un o pa, fun ρ z B σ H Q e R q => ?_⟩
  obtain ⟨x, hx, e2⟩ := mUn_some e
  refine ea ρ x B σ H _ hx R fun v H1 e1 r1 => ?_
  exact hf x z H1 v Q e2 r1.1 fun v' H2 e2 r2 => q v' H2 (e1.trans e2) (RepX.ex e1 r2)
theorem ge_neg (ha : GE X a ma) : GE X (.UnaryOp .USub a pos) (mUn fNeg ma) := ge_un un_neg (fun x z H v Q e h q => by
  unfold fNeg at e
  split at e
  · cases e
    exact ⟨_, rep_int h, q _ _ (Ex.refl H) ⟨int_rep, trivial⟩⟩
  · cases e) ha

/-! ### tests -/
variable {t u : M Bool} {c : Expr} {rest : List Expr}
theorem gt_w (h : GW X e t) : GT X e t := by
  obtain ⟨tt, p, ev⟩ := h.ex
  exact ⟨tt, p.pt, ev⟩
theorem gw_and1 (h : GT X a t) : GW X (.BoolOp .And [a] pos) t := by
  obtain ⟨tt, p, ev⟩ := h.ex
  exact ⟨tt, pw_and1 p, ev⟩
theorem gw_or1 (h : GT X a t) : GW X (.BoolOp .Or [a] pos) t := by
  obtain ⟨tt, p, ev⟩ := h.ex
  exact ⟨tt, pw_or1 p, ev⟩
theorem gw_and (h : GT X a t) (h2 : GW X (.BoolOp .And (b :: rest) pos) u) : GW X (.BoolOp .And (a :: b :: rest) pos) (mAnd t u) := by
  obtain ⟨tt, p, ev⟩ := h.ex
  obtain ⟨tu, pu, eu⟩ := h2.ex
  refine ⟨_, pw_and p pu, fun ρ c B σ H Q e R q => ?_⟩
  unfold mAnd at e
  split at e
  · rename_i hb
    refine ev ρ _ B σ H _ hb R fun H1 e1 => ?_
    rw [if_pos rfl]
    exact eu ρ c B σ H1 _ e (R.mono e1) fun H2 e2 => q H2 (e1.trans e2)
  · rename_i hb
    cases e
    refine ev ρ _ B σ H _ hb R fun H1 e1 => ?_
    rw [if_neg Bool.false_ne_true]
    exact q H1 e1
  · cases e
theorem gw_or (h : GT X a t) (h2 : GW X (.BoolOp .Or (b :: rest) pos) u) : GW X (.BoolOp .Or (a :: b :: rest) pos) (mOr t u) := by
  obtain ⟨tt, p, ev⟩ := h.ex
  obtain ⟨tu, pu, eu⟩ := h2.ex
  refine ⟨_, pw_or p pu, fun ρ c B σ H Q e R q => ?_⟩
  unfold mOr at e
  split at e
  · rename_i hb
    cases e
    refine ev ρ _ B σ H _ hb R fun H1 e1 => ?_
    rw [if_pos rfl]
    exact q H1 e1
  · rename_i hb
    refine ev ρ _ B σ H _ hb R fun H1 e1 => ?_
    rw [if_neg Bool.false_ne_true]
    exact eu ρ c B σ H1 _ e (R.mono e1) fun H2 e2 => q H2 (e1.trans e2)
  · cases e
theorem gt_not (h : GT X a t) : GT X (.UnaryOp .Not a pos) (mNot t) := by
  obtain ⟨tt, p, ev⟩ := h.ex
  refine ⟨_, pt_not p, fun ρ c B σ H Q e R q => ?_⟩
  unfold mNot at e
  split at e
  · rename_i b hb
    cases e
    exact ev ρ _ B σ H _ hb R fun H1 e1 => q H1 e1
  · cases e
/-- and, or, not as values (of truth values) -/
theorem ge_one {op} (h : GE X a ma) : GE X (.BoolOp op [a] pos) ma := by
  obtain ⟨tt, p, ev⟩ := h.ex
  exact ⟨tt, pe_one p, ev⟩
theorem ge_and (h : GE X a ma) (h2 : GE X (.BoolOp .And (b :: rest) pos) mb) : GE X (.BoolOp .And (a :: b :: rest) pos) (mIf (mTest ma) mb (mC (.d (.bl false)))) := by
  obtain ⟨tt, p, ev⟩ := h.ex
  obtain ⟨tu, pu, eu⟩ := h2.ex
  refine ⟨_, pe_and p pu, fun ρ c B σ H Q e R q => ?_⟩
  unfold mIf at e
  split at e
  · rename_i hb
    refine ev ρ _ B σ H _ (mTest_some hb) R fun v H1 e1 r1 => ⟨true, rep_bl r1.1, ?_⟩
    rw [if_pos rfl]
    exact eu ρ c B σ H1 _ e (R.mono e1) fun v2 H2 e2 r2 => q v2 H2 (e1.trans e2) (RepX.ex e1 r2)
  · rename_i hb
    unfold mC at e
    cases e
    refine ev ρ _ B σ H _ (mTest_some hb) R fun v H1 e1 r1 => ⟨false, rep_bl r1.1, ?_⟩
    rw [if_neg Bool.false_ne_true]
    exact q _ H1 e1 ⟨bl_rep, trivial⟩
  · cases e
theorem ge_or (h : GE X a ma) (h2 : GE X (.BoolOp .Or (b :: rest) pos) mb) : GE X (.BoolOp .Or (a :: b :: rest) pos) (mIf (mTest ma) (mC (.d (.bl true))) mb) := by
  obtain ⟨tt, p, ev⟩ := h.ex
  obtain ⟨tu, pu, eu⟩ := h2.ex
  refine ⟨_, pe_or p pu, fun ρ c B σ H Q e R q => ?_⟩
  unfold mIf at e
  split at e
  · rename_i hb
    unfold mC at e
    cases e
    refine ev ρ _ B σ H _ (mTest_some hb) R fun v H1 e1 r1 => ⟨true, rep_bl r1.1, ?_⟩
    rw [if_pos rfl]
    exact q _ H1 e1 ⟨bl_rep, trivial⟩
  · rename_i hb
    refine ev ρ _ B σ H _ (mTest_some hb) R fun v H1 e1 r1 => ⟨false, rep_bl r1.1, ?_⟩
    rw [if_neg Bool.false_ne_true]
    exact eu ρ c B σ H1 _ e (R.mono e1) fun v2 H2 e2 r2 => q v2 H2 (e1.trans e2) (RepX.ex e1 r2)
  · cases e
theorem ge_not (h : GE X a ma) : GE X (.UnaryOp .Not a pos) (mBoo (mNot (mTest ma))) := by
  obtain ⟨tt, p, ev⟩ := h.ex
  refine ⟨_, pe_not p, fun ρ c B σ H Q e R q => ?_⟩
  unfold mBoo mNot at e
  split at e
  · rename_i b hb
    split at hb
    · rename_i b2 hb2
      cases hb
      cases e
      exact ev ρ _ B σ H _ (mTest_some hb2) R fun v H1 e1 r1 => ⟨b2, rep_bl r1.1, q _ H1 e1 ⟨bl_rep, trivial⟩⟩
    · cases hb
  · cases e
theorem ge_if (hc : GT X c t) (ha : GE X a ma) (hb : GE X b mb) : GE X (.IfExp c a b pos) (mIf t ma mb) := by
  obtain ⟨tt, p, ev⟩ := hc.ex
  obtain ⟨ta, pa, ea⟩ := ha.ex
  obtain ⟨tb, pb, eb⟩ := hb.ex
  refine ⟨_, pe_ifExp p pa pb, fun ρ z B σ H Q e R q => ?_⟩
  unfold mIf at e
  split at e
  · rename_i hb
    refine ev ρ _ B σ H _ hb R fun H1 e1 => ?_
    rw [if_pos rfl]
    exact ea ρ z B σ H1 _ e (R.mono e1) fun v2 H2 e2 r2 => q v2 H2 (e1.trans e2) (RepX.ex e1 r2)
  · rename_i hb
    refine ev ρ _ B σ H _ hb R fun H1 e1 => ?_
    rw [if_neg Bool.false_ne_true]
    exact eb ρ z B σ H1 _ e (R.mono e1) fun v2 H2 e2 r2 => q v2 H2 (e1.trans e2) (RepX.ex e1 r2)
  · cases e
/-- a < b < c -/
def mChain (f g : W → W → Option W) (a b c : M W) : M W := fun ρ => match a ρ with
  | some x => (match b ρ with
    | some y => (match f x y with
      | some (.d (.bl true)) => (match c ρ with
        | some z => g y z
        | none => none)
      | some (.d (.bl false)) => some (.d (.bl false))
      | _ => none)
    | none => none)
  | none => none
end

/-! ### displays, items -/
section
variable {X : Cx} {a b e : Expr} {ma mb m : M W} {es : List Expr} {ml : M (List W)} {pos : Pos}
theorem ga_nil : GA X [] mNil := ⟨_, pa_nil, fun ρ xs B σ H Q e R q => by
  unfold mNil at e
  cases e
  exact q [] H (Ex.refl H) (by simp only [RepWs])⟩
theorem mCons_some {ρ : Env} {zs : List W} (h : mCons ma ml ρ = some zs) : ∃ x xs, ma ρ = some x ∧ ml ρ = some xs ∧ zs = x :: xs := by
  unfold mCons at h
  split at h
  · rename_i x hx
    split at h
    · rename_i xs hxs
      cases h
      exact ⟨x, xs, hx, hxs, rfl⟩
    · cases h
  · cases h
theorem ga_cons (ha : GE X a ma) (hr : GA X es ml) (hs : starEach (a :: es) X.env = (false, eval a X.env) :: starEach es X.env := by rfl) : GA X (a :: es) (mCons ma ml) := by
  obtain ⟨ta, pa, ea⟩ := ha.ex
  obtain ⟨tr, pr, er⟩ := hr.ex
  refine ⟨_, pa_cons pa pr hs, fun ρ zs B σ H Q e R q => ?_⟩
  obtain ⟨x, xs, hx, hxs, rfl⟩ := mCons_some e
  refine ea ρ x B σ H _ hx R fun v H1 e1 r1 => ?_
  refine er ρ xs B σ H1 _ hxs (R.mono e1) fun vs H2 e2 r2 => ?_
  exact q (v :: vs) H2 (e1.trans e2) (by simp only [RepWs]; exact ⟨r1.1.ex e2, r2⟩)
theorem size1000 {n : Nat} (h : Nat.ble n 1000 = true) : n ≤ sizeLine := Nat.le_trans (Nat.le_of_ble_eq_true h) (by decide)
theorem ge_tup {x1} (h : GA X es ml) : GE X (.Tuple es x1 pos) (mTup ml) := by
  obtain ⟨tr, pr, er⟩ := h.ex
  refine ⟨_, pe_tup pr, fun ρ z B σ H Q e R q => ?_⟩
  unfold mTup at e
  split at e
  · rename_i xs hxs
    split at e
    · rename_i ds hds
      split at e
      · rename_i hl
        cases e
        refine er ρ xs B σ H _ hxs R fun vs H1 e1 r1 => ?_
        have r2 := repWs_datas r1 hds
        refine ⟨by rw [repA_len r2]; exact size1000 hl, fun p hp => ?_⟩
        refine q _ _ (e1.trans (Ex.new hp)) ⟨tup_rep (SqT.of upd_same) (RepA.sta (Ex.new hp).sta _ _ r2), trivial⟩
      · cases e
    · cases e
  · cases e
theorem ge_lst (h : GA X es ml) : GE X (.List es pos) (mLst ml) := by
  obtain ⟨tr, pr, er⟩ := h.ex
  refine ⟨_, pe_lst pr, fun ρ z B σ H Q e R q => ?_⟩
  unfold mLst at e
  split at e
  · rename_i xs hxs
    split at e
    · rename_i ds hds
      split at e
      · rename_i hl
        cases e
        refine er ρ xs B σ H _ hxs R fun vs H1 e1 r1 => ?_
        have r2 := repWs_datas r1 hds
        refine ⟨by rw [repA_len r2]; exact size1000 hl, fun p hp => ?_⟩
        refine q _ _ (e1.trans (Ex.new hp)) ⟨⟨p, vs, rfl, upd_same, RepA.sta (Ex.new hp).sta _ _ r2⟩, fun a z => ?_⟩
        cases z
        exact e1.back hp
      · cases e
    · cases e
  · cases e
theorem ge_ix (ha : GE X a ma) (hb : GE X b mb) (hs : PlainIx b := by exact fun _ _ => rfl) : GE X (.Subscript a b pos) (mOp fIx ma mb) := by
  obtain ⟨ta, pa, ea⟩ := ha.ex
  obtain ⟨tb, pb, eb⟩ := hb.ex
  refine ⟨_, pe_ix ix_tup pa pb hs, fun ρ z B σ H Q e R q => ?_⟩
  obtain ⟨x, y, hx, hy, hf⟩ := mOp_some e
  refine ea ρ x B σ H _ hx R fun v H1 e1 r1 => ?_
  refine eb ρ y B σ H1 _ hy (R.mono e1) fun u H2 e2 r2 => ?_
  unfold fIx at hf
  split at hf
  · rename_i ds i
    split at hf
    · rename_i d hd
      cases hf
      obtain ⟨p, xs, rfl, h1, h2⟩ := rep_tup (r1.1.ex e2)
      obtain ⟨w, hw, rw'⟩ := repA_get h2 hd
      exact ⟨p, xs, _, w, rfl, rep_int r2.1, h1, atI_nat hw, q w H2 (e1.trans e2) ⟨rw', trivial⟩⟩
    · cases hf
  · cases hf
end
end DL
set_option Elab.async false
set_option linter.all false
set_option maxRecDepth 100000
set_option maxHeartbeats 4000000
/-! DLc: statements. -/
namespace DL
open PySem PySem.Spec PyProof.Rows L2

/-! ### mirrors -/
def sNx : M Out := fun ρ => some (.nx ρ)
def sSeq (a b : M Out) : M Out := fun ρ => match a ρ with
  | some (.nx ρ') => b ρ'
  | r => r
def notLst : W → Bool
  | .lst _ => false
  | _ => true
def sSet (i : Nat) (m : M W) : M Out := fun ρ => match m ρ with
  | some x => (match notLst x with
    | true => some (.nx (ρ.set i (some x)))
    | false => none)
  | none => none
def sAsg (m : M W) (g : D → Env → Option Env) : M Out := fun ρ => match m ρ with
  | some (.d x) => (match g x ρ with
    | some ρ' => some (.nx ρ')
    | none => none)
  | _ => none
def sPar (i j : Nat) (a b : M W) : M Out := fun ρ => match a ρ with
  | some x => (match b ρ with
    | some y => (match notLst x && notLst y with
      | true => some (.nx ((ρ.set i (some x)).set j (some y)))
      | false => none)
    | none => none)
  | none => none
def sPar3 (i j l : Nat) (a b c : M W) : M Out := fun ρ => match a ρ with
  | some x => (match b ρ with
    | some y => (match c ρ with
      | some z => (match notLst x && notLst y && notLst z with
        | true => some (.nx (((ρ.set i (some x)).set j (some y)).set l (some z)))
        | false => none)
      | none => none)
    | none => none)
  | none => none
def sAug (i : Nat) (f : W → W → Option W) (m : M W) : M Out := fun ρ => match ρ[i]? with
  | some (some x) => (match m ρ with
    | some y => (match f x y with
      | some z => (match notLst z with
        | true => some (.nx (ρ.set i (some z)))
        | false => none)
      | none => none)
    | none => none)
  | _ => none
def sIf (t : M Bool) (a b : M Out) : M Out := fun ρ => match t ρ with
  | some true => a ρ
  | some false => b ρ
  | none => none
def sRet (m : M W) : M Out := fun ρ => match m ρ with
  | some x => (match notLst x with
    | true => some (.rt x)
    | false => none)
  | none => none
/-- return of a name -/
def sRetV (i : Nat) : M Out := fun ρ => match ρ[i]? with
  | some (some x) => (match notLst x with
    | true => some (.rt x)
    | false => none)
  | _ => none
def sNone : M Out := fun _ => none
def sBk : M Out := fun ρ => some (.bk ρ)
def sCt : M Out := fun ρ => some (.ct ρ)
def sAppend (i : Nat) (m : M W) : M Out := fun ρ => match ρ[i]? with
  | some (some (.own ds)) => (match m ρ with
    | some (.d x) => (match Nat.ble ds.length 1000 with
      | true => some (.nx (ρ.set i (some (.own (ds ++ [x])))))
      | false => none)
    | _ => none)
  | _ => none
def sExtend (i : Nat) (m : M W) : M Out := fun ρ => match ρ[i]? with
  | some (some (.own ds)) => (match m ρ with
    | some (.own es) => (match Nat.ble (ds.length + es.length) 1000 with
      | true => some (.nx (ρ.set i (some (.own (ds ++ es)))))
      | false => none)
    | _ => none)
  | _ => none
def whileN : Nat → M Bool → M Out → Env → Option Out
  | 0, _, _, _ => none
  | n + 1, c, b, ρ => match c ρ with
    | some true => (match b ρ with
      | some (.nx ρ') => whileN n c b ρ'
      | some (.ct ρ') => whileN n c b ρ'
      | some (.bk ρ') => some (.nx ρ')
      | some (.rt x) => some (.rt x)
      | none => none)
    | some false => some (.nx ρ)
    | none => none
def sWhile (n : Nat) (c : M Bool) (b : M Out) : M Out := whileN n c b
def noLst (ρ : Env) : Bool := ρ.all fun
  | some x => notLst x
  | none => true
def forL (g : D → Env → Option Env) (b : M Out) : List D → Env → Option Out
  | [], ρ => match noLst ρ with
    | true => some (.nx ρ)
    | false => none
  | d :: ds, ρ => match g d ρ with
    | some ρ1 => (match b ρ1 with
      | some (.nx ρ2) => forL g b ds ρ2
      | some (.ct ρ2) => forL g b ds ρ2
      | some (.bk ρ2) => (match noLst ρ2 with
        | true => some (.nx ρ2)
        | false => none)
      | some (.rt x) => some (.rt x)
      | none => none)
    | none => none
def sFor (m : M (List D)) (g : D → Env → Option Env) (b : M Out) : M Out := fun ρ => match m ρ with
  | some ds => forL g b ds ρ
  | none => none
def gNm (i : Nat) : D → Env → Option Env := fun d ρ => some (ρ.set i (some (.d d)))
def gsNil : List D → Env → Option Env
  | [], ρ => some ρ
  | _, _ => none
def gsCons (g : D → Env → Option Env) (gs : List D → Env → Option Env) : List D → Env → Option Env
  | d :: ds, ρ => match g d ρ with
    | some ρ' => gs ds ρ'
    | none => none
  | [], _ => none
def gTp (n : Nat) (gs : List D → Env → Option Env) : D → Env → Option Env
  | .tup ds, ρ => match Nat.beq ds.length n with
    | true => gs ds ρ
    | false => none
  | _, _ => none
/-- a list made on the way, a tuple | a list of any kind (for a comprehension) -/
def itF (m : M W) : M (List D) := fun ρ => match m ρ with
  | some (.own ds) => some ds
  | some (.d (.tup ds)) => some ds
  | _ => none
def itC (m : M W) : M (List D) := fun ρ => match m ρ with
  | some (.own ds) => some ds
  | some (.lst ds) => some ds
  | some (.d (.tup ds)) => some ds
  | _ => none

/-! ### the names change -/
section
variable {P : Program} {w : World} {K : PySem.W.Frag} {B H H1 : Hp} {ρ : Env} {σ : L2.St}
theorem set_get {α : Type} {l : List (Option α)} {i j : Nat} {x y : α} (h : (l.set i (some x))[j]? = some (some y)) : (j = i ∧ y = x ∧ i < l.length) ∨ (j ≠ i ∧ l[j]? = some (some y)) := by
  by_cases e : j = i
  · subst e
    by_cases hl : j < l.length
    · rw [List.getElem?_set_self hl] at h
      exact .inl ⟨rfl, (Option.some.inj (Option.some.inj h)).symm, hl⟩
    · rw [List.getElem?_eq_none_iff.mpr (by rw [List.length_set]; omega)] at h
      cases h
  · rw [List.getElem?_set_ne (Ne.symm e)] at h
    exact .inr ⟨e, h⟩
theorem RE.set (R : RE P w K B ρ σ H) (e : Ex H H1) {i : Nat} {x : W} {v : V} (r : RepW P w K H1 x v) (f : Fre H x v) (n : notLst x = true) : RE P w K B (ρ.set i (some x)) (σ.set i (some v)) H1 where
  ex := R.ex.trans e
  tab := R.tab.ex e
  len := by rw [List.length_set, List.length_set, R.len]
  get := fun j y h => by
    rcases set_get h with ⟨rfl, rfl, hl⟩ | ⟨ne, h⟩
    · exact ⟨v, List.getElem?_set_self (by rw [← R.len]; exact hl), r, f.ex R.ex⟩
    · obtain ⟨u, h1, h2, h3⟩ := R.get j y h
      exact ⟨u, by rw [List.getElem?_set_ne (Ne.symm ne)]; exact h1, h2.ex e, h3⟩
  base := fun j ds h => by
    rcases set_get h with ⟨rfl, rfl, hl⟩ | ⟨ne, h⟩
    · cases n
    · obtain ⟨u, h1, h2⟩ := R.base j ds h
      exact ⟨u, by rw [List.getElem?_set_ne (Ne.symm ne)]; exact h1, h2⟩
  sep := fun j k ds es ne hj hk u hu hu2 => by
    rcases set_get hj with ⟨rfl, ej, hl⟩ | ⟨nj, hj2⟩
    · rcases set_get hk with ⟨rfl, _, _⟩ | ⟨nk, hk2⟩
      · exact ne rfl
      · subst ej
        rw [List.getElem?_set_self (by rw [← R.len]; exact hl)] at hu
        cases hu
        rw [List.getElem?_set_ne ne] at hu2
        obtain ⟨u2, h1, ⟨a, xs, ea, h2, _⟩, _⟩ := R.get k _ hk2
        rw [h1] at hu2
        cases hu2
        rw [f a ea] at h2
        cases h2
    · rcases set_get hk with ⟨rfl, ek, hl⟩ | ⟨nk, hk2⟩
      · subst ek
        rw [List.getElem?_set_self (by rw [← R.len]; exact hl)] at hu2
        cases hu2
        rw [List.getElem?_set_ne (Ne.symm ne)] at hu
        obtain ⟨u2, h1, ⟨a, xs, ea, h2, _⟩, _⟩ := R.get j _ hj2
        rw [h1] at hu
        cases hu
        rw [f a ea] at h2
        cases h2
      · rw [List.getElem?_set_ne (Ne.symm nj)] at hu
        rw [List.getElem?_set_ne (Ne.symm nk)] at hu2
        exact R.sep j k ds es ne hj2 hk2 u hu hu2
theorem RE.setD (R : RE P w K B ρ σ H) {i : Nat} {d : D} {v : V} (r : Rep K H d v) : RE P w K B (ρ.set i (some (.d d))) (σ.set i (some v)) H := R.set (Ex.refl H) (x := .d d) r trivial rfl
/-- a list of one's own changes -/
theorem RE.mut (R : RE P w K B ρ σ H) {i : Nat} {ds es0 : List D} {a : Addr} {xs ys : List V} (hi : ρ[i]? = some (some (.own ds))) (hs : σ[i]? = some (some (.ref a))) (ha : H a = some (.lst xs)) (r : RepA K H es0 ys) : RE P w K B (ρ.set i (some (.own es0))) σ (upd H a (.lst ys)) where
  ex := R.ex.mut (by
    obtain ⟨v, h1, _, h3⟩ := R.get i _ hi
    rw [hs] at h1
    cases h1
    exact h3 a rfl)
  tab := R.tab.put ha (fun _ z => nomatch z)
  len := by rw [List.length_set]; exact R.len
  get := fun j y h => by
    have st := sta_lst (o := .lst ys) ha
    rcases set_get h with ⟨rfl, rfl, hl⟩ | ⟨ne, h⟩
    · obtain ⟨v, h1, _, h3⟩ := R.get j _ hi
      rw [hs] at h1
      cases h1
      exact ⟨_, hs, ⟨a, ys, rfl, upd_same, RepA.sta st _ _ r⟩, h3⟩
    · obtain ⟨u, h1, h2, h3⟩ := R.get j y h
      refine ⟨u, h1, ?_, h3⟩
      cases y with
      | d x => exact Rep.sta st _ _ h2
      | own fs =>
        obtain ⟨b, zs, eb, h4, h5⟩ := h2
        have nb : b ≠ a := fun z => R.sep i j ds fs (Ne.symm ne) hi h _ hs (by rw [h1, eb, z])
        exact ⟨b, zs, eb, by rw [upd_ne nb]; exact h4, RepA.sta st _ _ h5⟩
      | lst fs =>
        obtain ⟨u2, h6, b, zs, eb, h7, h8⟩ := R.base j fs h
        rw [h1] at h6
        cases h6
        have bf : B a = none := by
          obtain ⟨v, q1, _, q3⟩ := R.get i _ hi
          rw [hs] at q1
          cases q1
          exact q3 a rfl
        have eb2 : Ex B (upd H a (.lst ys)) := R.ex.mut bf
        exact ⟨b, zs, eb, eb2.l h7, RepA.sta eb2.sta _ _ h8⟩
      | set fs =>
        obtain ⟨b, L, ks, eb, h4, h5, h6, h7⟩ := h2
        exact ⟨b, L, ks, eb, st _ _ h4 rfl, fun p hp => st.t (h5 p hp), h6, h7⟩
      | dct fs =>
        obtain ⟨b, L, eb, h4, h5, h6⟩ := h2
        exact ⟨b, L, eb, st _ _ h4 rfl, fun p hp => st.t (h5 p hp), h6⟩
  base := fun j ds h => by
    rcases set_get h with ⟨rfl, z, hl⟩ | ⟨ne, h⟩
    · cases z
    · exact R.base j ds h
  sep := fun j k es fs ne hj hk u hu hu2 => by
    have key : ∀ (l : Nat) (gs : List D), (ρ.set i (some (.own es0)))[l]? = some (some (.own gs)) → ∃ gs', ρ[l]? = some (some (.own gs')) := fun l gs h => by
      rcases set_get h with ⟨rfl, _, _⟩ | ⟨_, h⟩
      · exact ⟨ds, hi⟩
      · exact ⟨gs, h⟩
    obtain ⟨es', hj'⟩ := key j es hj
    obtain ⟨fs', hk'⟩ := key k fs hk
    exact R.sep j k es' fs' ne hj' hk' u hu hu2
end

/-! ### what stands still while a loop walks a list: all but one's own lists -/
open Classical in
noncomputable def drp (ρ : Env) (σ : L2.St) (H : Hp) : Hp := fun a => if ∃ (i : Nat) (ds : List D), ρ[i]? = some (some (.own ds)) ∧ σ[i]? = some (some (.ref a)) then none else H a
section
variable {P : Program} {w : World} {K : PySem.W.Frag} {B H H1 : Hp} {ρ : Env} {σ : L2.St}
theorem drp_none {a : Addr} (h : ∃ (i : Nat) (ds : List D), ρ[i]? = some (some (.own ds)) ∧ σ[i]? = some (some (.ref a))) : drp ρ σ H a = none := by
  unfold drp
  rw [if_pos h]
theorem drp_some {a : Addr} (h : ¬ ∃ (i : Nat) (ds : List D), ρ[i]? = some (some (.own ds)) ∧ σ[i]? = some (some (.ref a))) : drp ρ σ H a = H a := by
  unfold drp
  rw [if_neg h]
theorem drp_ex : Ex (drp ρ σ H) H := fun a o e => by
  by_cases h : ∃ (i : Nat) (ds : List D), ρ[i]? = some (some (.own ds)) ∧ σ[i]? = some (some (.ref a))
  · rw [drp_none h] at e
    cases e
  · rw [drp_some h] at e
    exact .inl e
theorem own_at (R : RE P w K B ρ σ H) {a : Addr} (h : ∃ (i : Nat) (ds : List D), ρ[i]? = some (some (.own ds)) ∧ σ[i]? = some (some (.ref a))) : B a = none ∧ ∃ xs, H a = some (.lst xs) := by
  obtain ⟨i, ds, h1, h2⟩ := h
  obtain ⟨v, h3, ⟨b, xs, eb, h4, _⟩, h5⟩ := R.get i _ h1
  rw [h2] at h3
  cases h3
  cases eb
  exact ⟨h5 a rfl, xs, h4⟩
theorem drp_base (R : RE P w K B ρ σ H) : Ex B (drp ρ σ H) := fun a o e => by
  by_cases h : ∃ (i : Nat) (ds : List D), ρ[i]? = some (some (.own ds)) ∧ σ[i]? = some (some (.ref a))
  · have z := (own_at R h).1
    rw [e] at z
    cases z
  · rcases R.ex a o e with z | ⟨z1, z2⟩
    · exact .inl (by rw [drp_some h]; exact z)
    · exact .inr ⟨z1, TabG.at z2 (drp_some h)⟩
theorem drp_re (R : RE P w K B ρ σ H) : RE P w K (drp ρ σ H) ρ σ H where
  ex := drp_ex
  tab := R.tab
  len := R.len
  get := fun i x h => by
    obtain ⟨v, h1, h2, _⟩ := R.get i x h
    refine ⟨v, h1, h2, ?_⟩
    cases x with
    | own ds =>
      intro a ea
      rw [ea] at h1
      exact drp_none ⟨i, ds, h, h1⟩
    | _ => trivial
  base := fun i ds h => by
    obtain ⟨v, h1, h2⟩ := R.base i ds h
    exact ⟨v, h1, h2.ex (drp_base R)⟩
  sep := R.sep
theorem drp_sta (R : RE P w K B ρ σ H) : Sta H (drp ρ σ H) := fun a o e n => by
  by_cases h : ∃ (i : Nat) (ds : List D), ρ[i]? = some (some (.own ds)) ∧ σ[i]? = some (some (.ref a))
  · obtain ⟨xs, z⟩ := (own_at R h).2
    rw [e] at z
    rw [Option.some.inj z] at n
    cases n
  · rw [drp_some h]
    exact e
theorem noLst_at {i : Nat} {ds : List D} (h : noLst ρ = true) : ρ[i]? ≠ some (some (.lst ds)) := fun z => by
  unfold noLst at h
  have q := List.all_eq_true.mp h _ (List.mem_of_getElem? z)
  cases q
/-- back to what stood before the loop -/
theorem RE.back {B1 : Hp} (R : RE P w K B1 ρ σ H) (e : Ex B B1) (n : noLst ρ = true) : RE P w K B ρ σ H where
  ex := e.trans R.ex
  tab := R.tab
  len := R.len
  get := fun i x h => by
    obtain ⟨v, h1, h2, h3⟩ := R.get i x h
    exact ⟨v, h1, h2, h3.ex e⟩
  base := fun i ds h => absurd h (noLst_at n)
  sep := R.sep
end

/-! ### blocks -/
section
variable {X : Cx} {a b : M Out} {m ma mb mc : M W} {t : M Bool} {e c : Expr} {st : Stmt} {rest sa sb : List Stmt} {pos : Pos}
theorem gs_nil : GSs X [] sNx := ⟨_, pss_nil, fun ρ o B σ H D e R q => by
  unfold sNx at e
  cases e
  exact q σ H R⟩
theorem gs_cons (h1 : GS X st a) (h2 : GSs X rest b) : GSs X (st :: rest) (sSeq a b) := by
  obtain ⟨t1, p1, e1⟩ := h1.ex
  obtain ⟨t2, p2, e2⟩ := h2.ex
  refine ⟨_, pss_cons p1 p2, fun ρ o B σ H D e R q => ?_⟩
  unfold sSeq at e
  cases h : a ρ with
  | none =>
    rw [h] at e
    cases e
  | some r =>
    rw [h] at e
    cases r with
    | nx ρ' => exact e1 ρ _ B σ H _ h R fun σ' H' R' => e2 ρ' o B σ' H' D e R' q
    | rt x =>
      cases e
      exact e1 ρ _ B σ H _ h R q
    | bk ρ' =>
      cases e
      exact e1 ρ _ B σ H _ h R q
    | ct ρ' =>
      cases e
      exact e1 ρ _ B σ H _ h R q
theorem gs_one (h1 : GS X st a) : GSs X [st] a := by
  obtain ⟨t1, p1, e1⟩ := h1.ex
  exact ⟨t1, pss_one p1, e1⟩
theorem gs_pass : GS X (.Pass pos) sNx := ⟨_, ps_pass, fun ρ o B σ H D e R q => by
  unfold sNx at e
  cases e
  exact q σ H R⟩
theorem gs_break : GS X (.Break pos) sBk := ⟨_, ps_break, fun ρ o B σ H D e R q => by
  unfold sBk at e
  cases e
  exact q σ H R⟩
theorem gs_continue : GS X (.Continue pos) sCt := ⟨_, ps_continue, fun ρ o B σ H D e R q => by
  unfold sCt at e
  cases e
  exact q σ H R⟩
theorem gs_never : GS X st sNone := ⟨_, ps_never, fun ρ o B σ H D e R q => by
  unfold sNone at e
  cases e⟩
theorem gs_ret (h : GE X e m) : GS X (.Return (some e) pos) (sRet m) := by
  obtain ⟨te, p, ev⟩ := h.ex
  refine ⟨_, ps_ret p, fun ρ o B σ H D e R q => ?_⟩
  unfold sRet at e
  split at e
  · rename_i x hx
    split at e
    · cases e
      exact ev ρ x B σ H _ hx R fun v H1 e1 r1 => q v H1 (R.ex.trans e1) (RepX.ex R.ex r1)
    · cases e
  · cases e
theorem gs_retV (i : Nat) {x : Str} {p2 : Pos} (hN : X.N[i]? = some x := by rfl) (hv : Vis X.env.scope x := by first | exact Or.inl rfl | exact Or.inr (Or.inl rfl) | exact Or.inr (Or.inr rfl)) (hd : (x == ("__debug__" : Str)) = false := by decide)
    (hcd : (x == ("__classdict__" : Str)) = false := by decide) : GS X (.Return (some (.Name x p2)) pos) (sRetV i) := ⟨_, ps_ret (pe_var hN hv hd hcd), fun ρ o B σ H D e R q => by
  unfold sRetV at e
  split at e
  · rename_i y hy
    split at e
    · cases e
      obtain ⟨v, h1, h2, h3⟩ := R.get i y hy
      exact ⟨v, h1, q v H R.ex ⟨h2, h3⟩⟩
    · cases e
  · cases e⟩
theorem gs_if (hc : GT X c t) (ha : GSs X sa a) (hb : GSs X sb b) : GS X (.If c sa sb pos) (sIf t a b) := by
  obtain ⟨tc, pc, ec⟩ := hc.ex
  obtain ⟨ta, pa, ea⟩ := ha.ex
  obtain ⟨tb, pb, eb⟩ := hb.ex
  refine ⟨_, ps_if pc pa pb, fun ρ o B σ H D e R q => ?_⟩
  unfold sIf at e
  split at e
  · rename_i h
    refine ec ρ _ B σ H _ h R fun H1 e1 => ?_
    rw [if_pos rfl]
    exact ea ρ o B σ H1 D e (R.mono e1) q
  · rename_i h
    refine ec ρ _ B σ H _ h R fun H1 e1 => ?_
    rw [if_neg Bool.false_ne_true]
    exact eb ρ o B σ H1 D e (R.mono e1) q
  · cases e
/-- x = e -/
theorem gs_set (i : Nat) {x : Str} {p2 : Pos} (h : GE X e m) (hN : X.N.Nodup) (hi : X.N[i]? = some x := by rfl) (hx : Loc X.env.scope x := by first | exact Or.inl rfl | exact Or.inr rfl) (hs : swapsWith e (some (.Name x p2)) pos.line X.env = pure false := by rfl)
    (hf : X.fn x = true ∨ X.env.scope.names.lookup x = some .local := by first | exact .inl rfl | exact .inr rfl) : GS X (.Assign [.Name x p2] e pos) (sSet i m) := by
  obtain ⟨te, p, ev⟩ := h.ex
  refine ⟨_, ps_set hN hi hx p hs hf, fun ρ o B σ H D e R q => ?_⟩
  unfold sSet at e
  split at e
  · rename_i y hy
    split at e
    · rename_i hn
      cases e
      exact ev ρ y B σ H _ hy R fun v H1 e1 r1 => q _ H1 (R.set e1 r1.1 r1.2 hn)
    · cases e
  · cases e
/-- a, b = e -/
theorem gs_asg {tg : Expr} {g : D → Env → Option Env} (h : GE X e m) (hg : GG X tg g) (hs : swapsWithSole [tg] e pos.line X.env = pure false := by rfl) (hw : swappedStores [tg] e X.env = pure none := by rfl)
    (h1 : (assignEach [tg] X.env).map (·.2) = [assign tg X.env] := by rfl) : GS X (.Assign [tg] e pos) (sAsg m g) := by
  obtain ⟨te, p, ev⟩ := h.ex
  obtain ⟨tg', pg, eg⟩ := hg.ex
  refine ⟨_, ps_asg p pg hs hw h1, fun ρ o B σ H D e R q => ?_⟩
  unfold sAsg at e
  split at e
  · rename_i y hy
    split at e
    · rename_i ρ' hr
      cases e
      exact ev ρ _ B σ H _ hy R fun v H1 e1 r1 => eg ρ ρ' y v B σ H1 _ hr r1.1 (R.mono e1) fun σ' R' => q σ' H1 R'
    · cases e
  · cases e
theorem and3 {a b : Bool} (h : (a && b) = true) : a = true ∧ b = true := Bool.and_eq_true_iff.mp h
theorem gs_par (i j : Nat) {x y : Str} {a b : Expr} {px py pt : Pos} {kt k2 pt2} (ha : GE X a ma) (hb : GE X b mb) (hc : X.calm = true) (hN : X.N.Nodup) (hi : X.N[i]? = some x := by rfl) (hj : X.N[j]? = some y := by rfl) (hij : i ≠ j := by decide)
    (hx : X.env.scope.names.lookup x = some .local := by rfl) (hy : X.env.scope.names.lookup y = some .local := by rfl)
    (hw : swappedStores [.Tuple [.Name x px, .Name y py] kt pt] (.Tuple [a, b] k2 pt2) X.env = pure (some [x, y]) := by rfl)
    (hs : swapsWithSole [.Tuple [.Name x px, .Name y py] kt pt] (.Tuple [a, b] k2 pt2) pos.line X.env = pure false := by rfl)
    (h1 : starEach [a, b] X.env = (false, eval a X.env) :: starEach [b] X.env := by rfl) (h2 : starEach [b] X.env = (false, eval b X.env) :: starEach [] X.env := by rfl) :
    GS X (.Assign [.Tuple [.Name x px, .Name y py] kt pt] (.Tuple [a, b] k2 pt2) pos) (sPar i j ma mb) := by
  obtain ⟨ta, pa, ea⟩ := ha.ex
  obtain ⟨tb, pb, eb⟩ := hb.ex
  refine ⟨_, ps_par hc hN hi hj hij hx hy (pa_cons pa (pa_cons pb pa_nil h2) h1) hw hs, fun ρ o B σ H D e R q => ?_⟩
  unfold sPar at e
  split at e
  · rename_i u hu
    split at e
    · rename_i z hz
      split at e
      · rename_i hn
        obtain ⟨n1, n2⟩ := and3 hn
        cases e
        refine ea ρ u B σ H _ hu R fun v H1 e1 r1 => eb ρ z B σ H1 _ hz (R.mono e1) fun v2 H2 e2 r2 => ⟨v, v2, rfl, q _ H2 ?_⟩
        have R1 := R.set (i := i) e1 r1.1 r1.2 n1
        exact R1.set e2 r2.1 r2.2 n2
      · cases e
    · cases e
  · cases e
theorem gs_par3 (i j l : Nat) {x y z : Str} {a b c : Expr} {px py pz pt : Pos} {kt k2 pt2} (ha : GE X a ma) (hb : GE X b mb) (hcc : GE X c mc) (hc : X.calm = true) (hN : X.N.Nodup) (hi : X.N[i]? = some x := by rfl) (hj : X.N[j]? = some y := by rfl) (hl : X.N[l]? = some z := by rfl)
    (hij : i ≠ j := by decide) (hil : i ≠ l := by decide) (hjl : j ≠ l := by decide)
    (hx : X.env.scope.names.lookup x = some .local := by rfl) (hy : X.env.scope.names.lookup y = some .local := by rfl) (hz : X.env.scope.names.lookup z = some .local := by rfl)
    (hw : swappedStores [.Tuple [.Name x px, .Name y py, .Name z pz] kt pt] (.Tuple [a, b, c] k2 pt2) X.env = pure (some [x, y, z]) := by rfl)
    (hs : swapsWithSole [.Tuple [.Name x px, .Name y py, .Name z pz] kt pt] (.Tuple [a, b, c] k2 pt2) pos.line X.env = pure false := by rfl)
    (h1 : starEach [a, b, c] X.env = (false, eval a X.env) :: starEach [b, c] X.env := by rfl) (h2 : starEach [b, c] X.env = (false, eval b X.env) :: starEach [c] X.env := by rfl) (h3 : starEach [c] X.env = (false, eval c X.env) :: starEach [] X.env := by rfl) :
    GS X (.Assign [.Tuple [.Name x px, .Name y py, .Name z pz] kt pt] (.Tuple [a, b, c] k2 pt2) pos) (sPar3 i j l ma mb mc) := by
  obtain ⟨ta, pa, ea⟩ := ha.ex
  obtain ⟨tb, pb, eb⟩ := hb.ex
  obtain ⟨tc, pc, ec⟩ := hcc.ex
  refine ⟨_, ps_par3 hc hN hi hj hl hij hil hjl hx hy hz (pa_cons pa (pa_cons pb (pa_cons pc pa_nil h3) h2) h1) hw hs, fun ρ o B σ H D e R q => ?_⟩
  unfold sPar3 at e
  split at e
  · rename_i u hu
    split at e
    · rename_i y2 hy2
      split at e
      · rename_i z2 hz2
        split at e
        · rename_i hn
          obtain ⟨n12, n3⟩ := and3 hn
          obtain ⟨n1, n2⟩ := and3 n12
          cases e
          refine ea ρ u B σ H _ hu R fun v H1 e1 r1 => eb ρ y2 B σ H1 _ hy2 (R.mono e1) fun v2 H2 e2 r2 => ec ρ z2 B σ H2 _ hz2 (R.mono (e1.trans e2)) fun v3 H3 e3 r3 => ⟨v, v2, v3, rfl, q _ H3 ?_⟩
          have R1 := R.set (i := i) e1 r1.1 r1.2 n1
          have R2 := R1.set (i := j) e2 r2.1 r2.2 n2
          exact R2.set e3 r3.1 r3.2 n3
        · cases e
      · cases e
    · cases e
  · cases e
/-- x op= e -/
theorem gs_aug (i : Nat) {x : Str} {p2 : Pos} {op : Operator} {f : W → W → Option W} (o : OpS X (inplaceOp op) f) (h : GE X e m) (hN : X.N.Nodup) (hi : X.N[i]? = some x := by rfl) (hx : Loc X.env.scope x := by first | exact Or.inl rfl | exact Or.inr rfl)
    (hf : X.fn x = true ∨ X.env.scope.names.lookup x = some .local := by first | exact .inl rfl | exact .inr rfl) : GS X (.AugAssign (.Name x p2) op e pos) (sAug i f m) := by
  obtain ⟨te, p, ev⟩ := h.ex
  obtain ⟨r, hr, o⟩ := o
  refine ⟨_, ps_aug hN hi hx p hr hf, fun ρ o2 B σ H D e R q => ?_⟩
  unfold sAug at e
  split at e
  · rename_i y hy
    split at e
    · rename_i z hz
      split at e
      · rename_i u hu
        split at e
        · rename_i hn
          cases e
          obtain ⟨v, h1, h2, _⟩ := R.get i y hy
          exact ⟨v, h1, ev ρ z B σ H _ hz R fun v1 H1 e1 r1 => o y z u H1 v v1 _ hu (h2.ex e1) r1.1 fun v2 H2 e2 r2 => q _ H2 (R.set (e1.trans e2) r2.1 (r2.2.ex e1) hn)⟩
        · cases e
      · cases e
    · cases e
  · cases e
theorem os_iadd : OpS X (inplaceOp .Add) fAdd := os_I0 (k := fun i j => .int (i + j)) iop_add (fun x y z e => by unfold fAdd at e; split at e <;> cases e; exact ⟨_, _, rfl, rfl, rfl⟩) hgI
theorem iop_fdivN : OpR X (inplaceOp .FloorDiv) (rI CDivN fun i j => .int (i.fdiv j)) := opI fun _ _ _ _ _ _ _ hc q => ifloordiv_int hc.1 q (.inl (PyProof.noPylong_small hc.2))
theorem os_idiv : OpS X (inplaceOp .FloorDiv) fDiv := os_I (k := fun i j => .int (i.fdiv j)) iop_fdivN (fun x y z e => by
  unfold fDiv at e
  split at e
  · split at e
    · cases e
      rename_i h
      obtain ⟨h1, h2⟩ := Bool.and_eq_true_iff.mp h
      exact ⟨_, _, rfl, rfl, rfl, of_decide_eq_true h1, Nat.le_of_ble_eq_true h2⟩
    · cases e
  · cases e) hgI
/-- xs.append(e), xs.extend(e) -/
theorem gs_append (i : Nat) {x : Str} {px pa pc : Pos} (h : GE X e m) (hN : X.N[i]? = some x := by rfl) (hv : Vis X.env.scope x := by first | exact Or.inl rfl | exact Or.inr (Or.inl rfl) | exact Or.inr (Or.inr rfl)) (hd : (x == ("__debug__" : Str)) = false := by decide)
    (hcd : (x == ("__classdict__" : Str)) = false := by decide) (hbase : attributeBase (.Name x px) "append" X.env (eval (.Name x px) X.env) = eval (.Name x px) X.env := by rfl)
    (hfew : ((backTo pc (starEach [e] X.env)).all (fun x => !x.1) && (backToKw pc (keywordEach [] X.env)).all (fun x => x.1.isSome)
      && decide ([e].length + ([] : List Keyword).length + (if ([] : List Keyword).isEmpty then 0 else 1) < 30)) = true := by rfl)
    (hline : (pa.endLine == pc.line) = true := by rfl) (hs : starEach [e] X.env = (false, eval e X.env) :: starEach [] X.env := by rfl) (hplain : (backTo pc (starEach [] X.env)).any (·.1) = false := by rfl)
    (hsw : swapsWith (.Call (.Attribute (.Name x px) "append" pa) [e] [] pc) none pos.line X.env = pure false := by rfl) : GS X (.Expr (.Call (.Attribute (.Name x px) "append" pa) [e] [] pc) pos) (sAppend i m) := by
  obtain ⟨te, p, ev⟩ := h.ex
  refine ⟨_, ps_expr (pe_bm PySem.F.plainAttrs_list PySem.F.slot_list_append PySem.F.type_list_append mt_append (pe_var hN hv hd hcd) (pa_cons p pa_nil hs) hbase hfew hline hs hplain) hsw, fun ρ o B σ H D e R q => ?_⟩
  unfold sAppend at e
  split at e
  · rename_i ds hi
    split at e
    · rename_i d hd
      split at e
      · rename_i hl
        cases e
        obtain ⟨v, h1, ⟨a, xs, ea, h2, h3⟩, h4⟩ := R.get i _ hi
        subst ea
        refine ⟨_, h1, .inl ⟨rfl, _, SqL.of h2⟩, ev ρ _ B σ H _ hd R fun u H1 e1 r1 => ?_⟩
        have h2' : H1 a = some (.lst xs) := e1.at h2 fun _ z => nomatch z
        have h3' := RepA.sta e1.sta _ _ h3
        refine ⟨a, xs, u, rfl, rfl, h2', ?_, q σ _ ((R.mono e1).mut hi h1 h2' (repA_app h3' (by simp only [RepA]; exact ⟨r1.1, trivial⟩)))⟩
        rw [repA_len h3]
        exact Nat.lt_of_le_of_lt (Nat.le_of_ble_eq_true hl) (by decide)
      · cases e
    · cases e
  · cases e
theorem gs_extend (i : Nat) {x : Str} {px pa pc : Pos} (h : GE X e m) (hN : X.N[i]? = some x := by rfl) (hv : Vis X.env.scope x := by first | exact Or.inl rfl | exact Or.inr (Or.inl rfl) | exact Or.inr (Or.inr rfl)) (hd : (x == ("__debug__" : Str)) = false := by decide)
    (hcd : (x == ("__classdict__" : Str)) = false := by decide) (hbase : attributeBase (.Name x px) "extend" X.env (eval (.Name x px) X.env) = eval (.Name x px) X.env := by rfl)
    (hfew : ((backTo pc (starEach [e] X.env)).all (fun x => !x.1) && (backToKw pc (keywordEach [] X.env)).all (fun x => x.1.isSome)
      && decide ([e].length + ([] : List Keyword).length + (if ([] : List Keyword).isEmpty then 0 else 1) < 30)) = true := by rfl)
    (hline : (pa.endLine == pc.line) = true := by rfl) (hs : starEach [e] X.env = (false, eval e X.env) :: starEach [] X.env := by rfl) (hplain : (backTo pc (starEach [] X.env)).any (·.1) = false := by rfl)
    (hsw : swapsWith (.Call (.Attribute (.Name x px) "extend" pa) [e] [] pc) none pos.line X.env = pure false := by rfl) : GS X (.Expr (.Call (.Attribute (.Name x px) "extend" pa) [e] [] pc) pos) (sExtend i m) := by
  obtain ⟨te, p, ev⟩ := h.ex
  refine ⟨_, ps_expr (pe_bm PySem.F.plainAttrs_list PySem.F.slot_list_extend PySem.F.type_list_extend mt_extend (pe_var hN hv hd hcd) (pa_cons p pa_nil hs) hbase hfew hline hs hplain) hsw, fun ρ o B σ H D e R q => ?_⟩
  unfold sExtend at e
  split at e
  · rename_i ds hi
    split at e
    · rename_i es hd
      split at e
      · rename_i hl
        cases e
        obtain ⟨v, h1, ⟨a, xs, ea, h2, h3⟩, h4⟩ := R.get i _ hi
        subst ea
        refine ⟨_, h1, .inl ⟨rfl, _, SqL.of h2⟩, ev ρ _ B σ H _ hd R fun u H1 e1 r1 => ?_⟩
        have h2' : H1 a = some (.lst xs) := e1.at h2 fun _ z => nomatch z
        have h3' := RepA.sta e1.sta _ _ h3
        obtain ⟨⟨b, zs, eb, h5, h6⟩, _⟩ := r1
        subst eb
        refine ⟨a, b, xs, zs, rfl, rfl, h2', h5, ?_, q σ _ ((R.mono e1).mut hi h1 h2' (repA_app h3' h6))⟩
        rw [repA_len h3, repA_len h6]
        exact size1000 hl
      · cases e
    · cases e
  · cases e

/-! ### while -/
theorem gs_while (n : Nat) (hc : GT X c t) (hb : GSs X sb b) (hp : PassesOwn (model X.prog X.w) X.A X.env X.xe) : GS X (.While c sb [] pos) (sWhile n t b) := by
  obtain ⟨tc, pc, ec⟩ := hc.ex
  obtain ⟨tb, pb, eb⟩ := hb.ex
  refine ⟨_, ps_while hp pc pb, fun ρ o B σ H D e R q => ?_⟩
  refine ⟨fun k σ' H' => ∃ ρ', REX X B ρ' σ' H' ∧ whileN k t b ρ' = some o, ⟨n, ρ, R, e⟩, ?_⟩
  rintro k σ1 H1 ⟨ρ1, R1, e1⟩
  cases k with
  | zero => cases e1
  | succ k =>
    unfold whileN at e1
    split at e1
    · rename_i hct
      refine ec ρ1 _ B σ1 H1 _ hct R1 fun H2 e2 => ?_
      rw [if_pos rfl]
      have R2 := R1.mono e2
      split at e1
      · rename_i ρ2 h2
        exact ⟨fun σ' H' => REX X B ρ2 σ' H', fun σ' H' R' => ⟨k, Nat.lt_succ_self k, ρ2, R', e1⟩, eb ρ1 _ B σ1 H2 _ h2 R2 fun σ' H' R' => R'⟩
      · rename_i ρ2 h2
        exact ⟨fun σ' H' => REX X B ρ2 σ' H', fun σ' H' R' => ⟨k, Nat.lt_succ_self k, ρ2, R', e1⟩, eb ρ1 _ B σ1 H2 _ h2 R2 fun σ' H' R' => R'⟩
      · rename_i ρ2 h2
        cases e1
        exact ⟨fun _ _ => False, fun _ _ z => z.elim, eb ρ1 _ B σ1 H2 _ h2 R2 q⟩
      · rename_i x h2
        cases e1
        exact ⟨fun _ _ => False, fun _ _ z => z.elim, eb ρ1 _ B σ1 H2 _ h2 R2 q⟩
      · cases e1
    · rename_i hct
      cases e1
      refine ec ρ1 _ B σ1 H1 _ hct R1 fun H2 e2 => ?_
      rw [if_neg Bool.false_ne_true]
      exact q σ1 H2 (R1.mono e2)
    · cases e1
end

/-! ### what is walked -/
/-- J hands out xs, in every heap that holds what Bp holds -/
structure Wk (J : It) (Bp : Hp) (xs : List V) : Prop where
  go : ∀ H, Ex Bp H → ∀ i, i < xs.length → J.go i H
  yld : ∀ H, Ex Bp H → ∀ i x H', i < xs.length → J.yld i H x H' → H' = H ∧ xs[i]? = some x
  stop : ∀ H, Ex Bp H → ∀ i, xs.length ≤ i → J.stop i H
theorem wk_list {K : PySem.W.Frag} {a : Addr} {xs : List V} {Bp : Hp} (h : SqL K Bp a xs) : Wk (Itl K a) Bp xs where
  go := fun H e i hi => ⟨xs, xs[i], e.l h, List.getElem?_eq_getElem hi⟩
  yld := fun H e i x H' _ y => ⟨y.1, y.2 xs (e.l h)⟩
  stop := fun H e i hi => ⟨xs, e.l h, hi⟩
theorem wk_tup {K : PySem.W.Frag} {a : Addr} {xs : List V} {Bp : Hp} (h : SqT K Bp a xs) : Wk (Itt K a) Bp xs where
  go := fun H e i hi => ⟨xs, xs[i], e.sta.t h, List.getElem?_eq_getElem hi⟩
  yld := fun H e i x H' _ y => ⟨y.1, y.2 xs (e.sta.t h)⟩
  stop := fun H e i hi => ⟨xs, e.sta.t h, hi⟩
def intsFrom (lo : Int) : Nat → List Int
  | 0 => []
  | n + 1 => lo :: intsFrom (lo + 1) n
theorem intsFrom_len : ∀ (n : Nat) (lo : Int), (intsFrom lo n).length = n
  | 0, _ => rfl
  | n + 1, lo => by rw [intsFrom, List.length_cons, intsFrom_len n]
theorem intsFrom_get : ∀ (n : Nat) (lo : Int) (i : Nat), i < n → (intsFrom lo n)[i]? = some (lo + i)
  | 0, _, _, h => absurd h (Nat.not_lt_zero _)
  | n + 1, lo, 0, _ => by simp [intsFrom]
  | n + 1, lo, i + 1, h => by
    rw [intsFrom, List.getElem?_cons_succ, intsFrom_get n (lo + 1) i (Nat.lt_of_succ_lt_succ h)]
    congr 1
    omega
theorem wk_range {lo : Int} {n : Nat} {Bp : Hp} : Wk (Itr lo n) Bp ((intsFrom lo n).map V.int) where
  go := fun H e i hi => by
    rw [List.length_map, intsFrom_len] at hi
    exact hi
  yld := fun H e i x H' hi y => by
    rw [List.length_map, intsFrom_len] at hi
    refine ⟨y.1, ?_⟩
    rw [List.getElem?_map, intsFrom_get _ _ _ hi, y.2]
    rfl
  stop := fun H e i hi => by
    rw [List.length_map, intsFrom_len] at hi
    exact hi

def itL (m : M W) : M (List D) := fun ρ => match m ρ with
  | some (.own ds) => some ds
  | _ => none
def itLC (m : M W) : M (List D) := fun ρ => match m ρ with
  | some (.own ds) => some ds
  | some (.lst ds) => some ds
  | _ => none
def itT (m : M W) : M (List D) := fun ρ => match m ρ with
  | some (.d (.tup ds)) => some ds
  | _ => none
def intD (i : Int) : D := .int i
def itR1 (m : M W) : M (List D) := fun ρ => match m ρ with
  | some (.d (.int j)) => (match decide (-1000 ≤ j) && decide (j ≤ 100000) with
    | true => some ((intsFrom 0 j.toNat).map intD)
    | false => none)
  | _ => none
def itR2 (a b : M W) : M (List D) := fun ρ => match a ρ with
  | some (.d (.int i)) => (match b ρ with
    | some (.d (.int j)) => (match decide (-100000 ≤ i) && decide (i ≤ 100000) && decide (-100000 ≤ j) && decide (j ≤ 100000) with
      | true => some ((intsFrom i (j - i).toNat).map intD)
      | false => none)
    | _ => none)
  | _ => none
def EvI (X : Cx) (wi : TI) (m : M (List D)) : Prop := ∀ ρ ds B σ H R, m ρ = some ds → REX X B ρ σ H → (∀ J H1 Bp xs, Ex H H1 → REX X Bp ρ σ H1 → Ex B Bp → RepA X.K Bp ds xs → Wk J Bp xs → R J H1) → wi σ H R
def EvC (X : Cx) (wi : TI) (m : M (List D)) : Prop := ∀ ρ ds B σ H R, m ρ = some ds → REX X B ρ σ H → (∀ J H1 xs, Ex H H1 → RepA X.K H1 ds xs → Wk J H1 xs → R J H1) → wi σ H R
structure GI (X : Cx) (tg e : Expr) (m : M (List D)) : Prop where
  ex : ∃ wi, PI X tg e wi ∧ EvI X wi m
structure GC (X : Cx) (tg e : Expr) (m : M (List D)) : Prop where
  ex : ∃ wi, PI X tg e wi ∧ EvC X wi m
theorem repA_intD {K : PySem.W.Frag} {H : Hp} : ∀ is : List Int, RepA K H (is.map intD) (is.map V.int)
  | [] => by simp only [RepA, List.map_nil]
  | i :: is => by
    simp only [List.map_cons, RepA, intD, Rep, true_and]
    exact repA_intD is
section
variable {X : Cx} {tg e : Expr} {m ma mb : M W} {pos : Pos}
theorem gi_list (h : GE X e m) : GI X tg e (itL m) := by
  obtain ⟨te, p, ev⟩ := h.ex
  refine ⟨_, pi_list p, fun ρ ds B σ H R e RR q => ?_⟩
  unfold itL at e
  split at e
  · rename_i es he
    cases e
    refine ev ρ _ B σ H _ he RR fun v H1 e1 r1 => ?_
    obtain ⟨⟨a, xs, ea, h1, h2⟩, hf⟩ := r1
    have R1 := RR.mono e1
    have na : ¬ ∃ (i : Nat) (ds : List D), ρ[i]? = some (some (.own ds)) ∧ σ[i]? = some (some (.ref a)) := fun z => by
      obtain ⟨ys, hy⟩ := (own_at RR z).2
      rw [hf a ea] at hy
      cases hy
    exact ⟨a, ea, ⟨xs, SqL.of h1⟩, q _ H1 (drp ρ σ H1) xs e1 (drp_re R1) (drp_base R1) (RepA.sta (drp_sta R1) _ _ h2) (wk_list (SqL.of ((drp_some na).trans h1)))⟩
  · cases e
theorem gi_tup (h : GE X e m) : GI X tg e (itT m) := by
  obtain ⟨te, p, ev⟩ := h.ex
  refine ⟨_, pi_tup p, fun ρ ds B σ H R e RR q => ?_⟩
  unfold itT at e
  split at e
  · rename_i es he
    cases e
    refine ev ρ _ B σ H _ he RR fun v H1 e1 r1 => ?_
    obtain ⟨a, xs, ea, h1, h2⟩ := rep_tup r1.1
    have R1 := RR.mono e1
    exact ⟨a, ea, ⟨xs, h1⟩, q _ H1 (drp ρ σ H1) xs e1 (drp_re R1) (drp_base R1) (RepA.sta (drp_sta R1) _ _ h2) (wk_tup ((drp_sta R1).t h1))⟩
  · cases e
theorem gc_list (h : GE X e m) : GC X tg e (itLC m) := by
  obtain ⟨te, p, ev⟩ := h.ex
  refine ⟨_, pi_list p, fun ρ ds B σ H R e RR q => ?_⟩
  unfold itLC at e
  split at e
  · rename_i es he
    cases e
    refine ev ρ _ B σ H _ he RR fun v H1 e1 r1 => ?_
    obtain ⟨⟨a, xs, ea, h1, h2⟩, _⟩ := r1
    exact ⟨a, ea, ⟨xs, SqL.of h1⟩, q _ H1 xs e1 h2 (wk_list (SqL.of h1))⟩
  · rename_i es he
    cases e
    refine ev ρ _ B σ H _ he RR fun v H1 e1 r1 => ?_
    obtain ⟨⟨a, xs, ea, h1, h2⟩, _⟩ := r1
    exact ⟨a, ea, ⟨xs, h1⟩, q _ H1 xs e1 h2 (wk_list h1)⟩
  · cases e
theorem gc_tup (h : GE X e m) : GC X tg e (itT m) := by
  obtain ⟨te, p, ev⟩ := h.ex
  refine ⟨_, pi_tup p, fun ρ ds B σ H R e RR q => ?_⟩
  unfold itT at e
  split at e
  · rename_i es he
    cases e
    refine ev ρ _ B σ H _ he RR fun v H1 e1 r1 => ?_
    obtain ⟨a, xs, ea, h1, h2⟩ := rep_tup r1.1
    exact ⟨a, ea, ⟨xs, h1⟩, q _ H1 xs e1 h2 (wk_tup h1)⟩
  · cases e
theorem range1 {p pp : Pos} {a : Expr} (h : GE X a ma) (hm : X.mg "range" = none) (hg : Gl X "range" := by rfl) (hs : starEach [a] X.env = [(false, eval a X.env)] := by rfl) :
    ∃ wi, PI X tg (.Call (.Name "range" p) [a] [] pp) wi ∧ ∀ ρ ds B σ H R, itR1 ma ρ = some ds → REX X B ρ σ H → (∀ J H1, Ex H H1 → (∃ n : Nat, J = Itr 0 n ∧ ds = (intsFrom 0 n).map intD) → R J H1) → wi σ H R := by
  obtain ⟨te, pe, ev⟩ := h.ex
  refine ⟨_, pi_range1 hg hm (pa_cons pe pa_nil hs) hs, fun ρ ds B σ H R e RR q => ?_⟩
  unfold itR1 at e
  split at e
  · rename_i j hj
    split at e
    · rename_i hb
      obtain ⟨b1, b2⟩ := and3 hb
      have b1 := of_decide_eq_true b1
      have b2 := of_decide_eq_true b2
      cases e
      exact ev ρ _ B σ H _ hj RR fun v H1 e1 r1 => ⟨j, by rw [rep_int r1.1], by omega, by omega, q _ H1 e1 ⟨_, rfl, rfl⟩⟩
    · cases e
  · cases e
theorem range2 {p pp : Pos} {a b : Expr} (ha : GE X a ma) (hb : GE X b mb) (hm : X.mg "range" = none) (hg : Gl X "range" := by rfl) (hs : starEach [a, b] X.env = [(false, eval a X.env), (false, eval b X.env)] := by rfl) (hs2 : starEach [b] X.env = [(false, eval b X.env)] := by rfl) :
    ∃ wi, PI X tg (.Call (.Name "range" p) [a, b] [] pp) wi ∧ ∀ ρ ds B σ H R, itR2 ma mb ρ = some ds → REX X B ρ σ H → (∀ J H1, Ex H H1 → (∃ (lo : Int) (n : Nat), J = Itr lo n ∧ ds = (intsFrom lo n).map intD) → R J H1) → wi σ H R := by
  obtain ⟨te, pe, ev⟩ := ha.ex
  obtain ⟨tb, pb, eb⟩ := hb.ex
  refine ⟨_, pi_range2 hg hm (pa_cons pe (pa_cons pb pa_nil hs2) (by rw [hs, hs2])) hs hs2, fun ρ ds B σ H R e RR q => ?_⟩
  unfold itR2 at e
  split at e
  · rename_i i hi
    split at e
    · rename_i j hj
      split at e
      · rename_i hb
        obtain ⟨hb, b4⟩ := and3 hb
        obtain ⟨hb, b3⟩ := and3 hb
        obtain ⟨b1, b2⟩ := and3 hb
        have b1 := of_decide_eq_true b1
        have b2 := of_decide_eq_true b2
        have b3 := of_decide_eq_true b3
        have b4 := of_decide_eq_true b4
        cases e
        exact ev ρ _ B σ H _ hi RR fun v H1 e1 r1 => eb ρ _ B σ H1 _ hj (RR.mono e1) fun v2 H2 e2 r2 => ⟨i, j, by rw [rep_int r1.1, rep_int r2.1], ⟨by omega, by omega, by omega, by omega⟩, q _ H2 (e1.trans e2) ⟨_, _, rfl, rfl⟩⟩
      · cases e
    · cases e
  · cases e
theorem gi_range1 {p pp : Pos} {a : Expr} (h : GE X a ma) (hm : X.mg "range" = none) (hg : Gl X "range" := by rfl) (hs : starEach [a] X.env = [(false, eval a X.env)] := by rfl) : GI X tg (.Call (.Name "range" p) [a] [] pp) (itR1 ma) := by
  obtain ⟨wi, pw, ew⟩ := range1 (tg := tg) (p := p) (pp := pp) h hm hg hs
  refine ⟨wi, pw, fun ρ ds B σ H R e RR q => ew ρ ds B σ H R e RR fun J H1 e1 ⟨n, ej, ed⟩ => ?_⟩
  subst ej ed
  exact q _ H1 B _ e1 (RR.mono e1) (Ex.refl B) (repA_intD _) wk_range
theorem gc_range1 {p pp : Pos} {a : Expr} (h : GE X a ma) (hm : X.mg "range" = none) (hg : Gl X "range" := by rfl) (hs : starEach [a] X.env = [(false, eval a X.env)] := by rfl) : GC X tg (.Call (.Name "range" p) [a] [] pp) (itR1 ma) := by
  obtain ⟨wi, pw, ew⟩ := range1 (tg := tg) (p := p) (pp := pp) h hm hg hs
  refine ⟨wi, pw, fun ρ ds B σ H R e RR q => ew ρ ds B σ H R e RR fun J H1 e1 ⟨n, ej, ed⟩ => ?_⟩
  subst ej ed
  exact q _ H1 _ e1 (repA_intD _) wk_range
theorem gi_range2 {p pp : Pos} {a b : Expr} (ha : GE X a ma) (hb : GE X b mb) (hm : X.mg "range" = none) (hg : Gl X "range" := by rfl) (hs : starEach [a, b] X.env = [(false, eval a X.env), (false, eval b X.env)] := by rfl) (hs2 : starEach [b] X.env = [(false, eval b X.env)] := by rfl) :
    GI X tg (.Call (.Name "range" p) [a, b] [] pp) (itR2 ma mb) := by
  obtain ⟨wi, pw, ew⟩ := range2 (tg := tg) (p := p) (pp := pp) ha hb hm hg hs hs2
  refine ⟨wi, pw, fun ρ ds B σ H R e RR q => ew ρ ds B σ H R e RR fun J H1 e1 ⟨lo, n, ej, ed⟩ => ?_⟩
  subst ej ed
  exact q _ H1 B _ e1 (RR.mono e1) (Ex.refl B) (repA_intD _) wk_range

/-! ### targets -/
theorem gg_name (i : Nat) {x : Str} (hN : X.N.Nodup) (hi : X.N[i]? = some x := by rfl) (hx : Loc X.env.scope x := by first | exact Or.inl rfl | exact Or.inr rfl) (hf : X.fn x = true ∨ X.env.scope.names.lookup x = some .local := by first | exact .inl rfl | exact .inr rfl) : GG X (.Name x pos) (gNm i) :=
  ⟨_, pg_name hN hi hx hf, fun ρ ρ' d v B σ H Q e r R q => by
    unfold gNm at e
    cases e
    exact q _ (R.setD r)⟩
def EvGs (X : Cx) (g : TGs) (m : List D → Env → Option Env) : Prop := ∀ ρ ρ' ds vs B σ H Q, m ds ρ = some ρ' → RepA X.K H ds vs → REX X B ρ σ H → (∀ σ', REX X B ρ' σ' H → Q σ' H) → g vs σ H Q
structure GGs (X : Cx) (ts : List Expr) (m : List D → Env → Option Env) : Prop where
  ex : ∃ g, PGs X ts g ∧ EvGs X g m
theorem ggs_nil : GGs X [] gsNil := ⟨_, pgs_nil, fun ρ ρ' ds vs B σ H Q e r R q => by
  cases ds with
  | nil =>
    cases vs with
    | nil =>
      cases e
      exact ⟨rfl, q σ R⟩
    | cons _ _ => simp only [RepA] at r
  | cons _ _ => cases e⟩
theorem ggs_cons {t : Expr} {ts : List Expr} {g : D → Env → Option Env} {gs : List D → Env → Option Env} (h : GG X t g) (h2 : GGs X ts gs) (hs : (assignEach (t :: ts) X.env).map (·.2) = assign t X.env :: (assignEach ts X.env).map (·.2) := by rfl) : GGs X (t :: ts) (gsCons g gs) := by
  obtain ⟨tg, pg, eg⟩ := h.ex
  obtain ⟨tgs, pgs, egs⟩ := h2.ex
  refine ⟨_, pgs_cons pg pgs hs, fun ρ ρ' ds vs B σ H Q e r R q => ?_⟩
  cases ds with
  | nil => cases e
  | cons d ds =>
    cases vs with
    | nil => simp only [RepA] at r
    | cons v vs =>
      simp only [RepA] at r
      unfold gsCons at e
      dsimp only at e
      split at e
      · rename_i ρ1 h1
        exact ⟨v, vs, rfl, eg ρ ρ1 d v B σ H _ h1 r.1 R fun σ1 R1 => egs ρ1 ρ' ds vs B σ1 H Q e r.2 R1 q⟩
      · cases e
theorem gg_tup {ts : List Expr} {k : Nat} {gs : List D → Env → Option Env} {n : Nat} (hc : X.calm = true) (h : GGs X ts gs) (hn : (assignEach ts X.env).length = n := by rfl) (hst : (assignEach ts X.env).findIdx? (·.1) = none := by rfl) : GG X (.Tuple ts k pos) (gTp n gs) := by
  obtain ⟨tgs, pgs, egs⟩ := h.ex
  refine ⟨_, pg_tup hc pgs hn hst, fun ρ ρ' d v B σ H Q e r R q => ?_⟩
  cases d with
  | tup ds =>
    unfold gTp at e
    dsimp only at e
    split at e
    · rename_i hl
      have r' : RepW X.prog X.w X.K H (.d (.tup ds)) v := r
      obtain ⟨a, xs, ea, h1, h2⟩ := rep_tup r'
      exact ⟨a, xs, ea, h1, by rw [repA_len h2]; exact Nat.eq_of_beq_eq_true hl, egs ρ ρ' ds xs B σ H Q e h2 R q⟩
    · cases e
  | _ => cases e

/-! ### for -/
variable {b : M Out} {g : D → Env → Option Env} {sb : List Stmt} {mi : M (List D)}
theorem gs_for (hi : GI X tg e mi) (hg : GG X tg g) (hb : GSs X sb b) (hc : X.calm = true) (hp : PassesOwn (model X.prog X.w) X.A X.env X.xe) (hs : ∀ x, foldedSetIterable e X.env x = pure x := by intro _; rfl) : GS X (.For tg e sb [] pos) (sFor mi g b) := by
  obtain ⟨wi, pw, ew⟩ := hi.ex
  obtain ⟨tgg, pg, eg⟩ := hg.ex
  obtain ⟨tb, pb, eb⟩ := hb.ex
  refine ⟨_, ps_for hp hc pw pg pb hs, fun ρ o B σ H D e R q => ?_⟩
  unfold sFor at e
  split at e
  · rename_i ds hds
    refine ew ρ ds B σ H _ hds R fun J H1 Bp xs e1 R1 eB rA wk => ?_
    have hlen := repA_len rA
    refine ⟨fun i m σ' H' => m = ds.length - i ∧ i ≤ ds.length ∧ ∃ ρ', REX X Bp ρ' σ' H' ∧ forL g b (ds.drop i) ρ' = some o, ⟨ds.length, by simp, Nat.zero_le _, ρ, R1, by rw [List.drop_zero]; exact e⟩, ?_⟩
    rintro i m σ2 H2 ⟨rfl, hi, ρ2, R2, f2⟩
    by_cases hlt : i < ds.length
    · refine .inr ⟨wk.go H2 R2.ex i (by rw [hlen]; exact hlt), ?_⟩
      rw [List.drop_eq_getElem_cons hlt] at f2
      unfold forL at f2
      split at f2
      · rename_i ρ3 h3
        have mk : ∀ (Nx : L2.St → Hp → Prop) (o3 : Out), b ρ3 = some o3 → OutOk X Bp { D with nx := Nx, ct := Nx, bk := D.nx } o3 → ∀ x H', J.yld i H2 x H' → tgg x σ2 H' fun σ4 H4 => tb { D with nx := Nx, ct := Nx, bk := D.nx } σ4 H4 := fun Nx o3 h4 ok x H' y => by
          obtain ⟨rfl, hx⟩ := wk.yld H2 R2.ex i x H' (by rw [hlen]; exact hlt) y
          obtain ⟨x', hx', rx⟩ := repA_get rA (List.getElem?_eq_getElem hlt)
          rw [hx] at hx'
          cases hx'
          exact eg ρ2 ρ3 _ x Bp σ2 _ _ h3 (Rep.sta R2.ex.sta _ _ rx) R2 fun σ4 R4 => eb ρ3 o3 Bp σ4 _ _ h4 R4 ok
        split at f2
        · rename_i ρ4 h4
          exact ⟨fun σ' H' => REX X Bp ρ4 σ' H', fun σ' H' R' => ⟨_, by omega, rfl, hlt, ρ4, R', f2⟩, mk _ _ h4 fun σ' H' R' => R'⟩
        · rename_i ρ4 h4
          exact ⟨fun σ' H' => REX X Bp ρ4 σ' H', fun σ' H' R' => ⟨_, by omega, rfl, hlt, ρ4, R', f2⟩, mk _ _ h4 fun σ' H' R' => R'⟩
        · rename_i ρ4 h4
          split at f2
          · rename_i hn
            cases f2
            exact ⟨fun _ _ => False, fun _ _ z => z.elim, mk _ _ h4 fun σ' H' R' => q σ' H' (R'.back eB hn)⟩
          · cases f2
        · rename_i x h4
          cases f2
          exact ⟨fun _ _ => False, fun _ _ z => z.elim, mk _ _ h4 fun v' H' e' r' => q v' H' (eB.trans e') (RepX.ex eB r')⟩
        · cases f2
      · cases f2
    · have ei : i = ds.length := by omega
      subst ei
      refine .inl ⟨wk.stop H2 R2.ex _ (by rw [hlen]; exact Nat.le_refl _), ?_⟩
      rw [List.drop_length] at f2
      unfold forL at f2
      split at f2
      · rename_i hn
        cases f2
        exact q σ2 H2 (R2.back eB hn)
      · cases f2
  · cases e
end
end DL
set_option Elab.async false
set_option linter.all false
set_option maxRecDepth 100000
set_option maxHeartbeats 4000000
/-! DLd: defs, calls, comprehensions. -/
namespace DL
open PySem PySem.Spec PyProof.Rows L2

/-! ### the reading that a mirror tells -/
def tM (P : Program) (w : World) (K : PySem.W.Frag) (m : M W) : TE := fun σ H Q => ∃ ρ x B, m ρ = some x ∧ RE P w K B ρ σ H ∧ ∀ v H2, Ex H H2 → RepW P w K H2 x v ∧ Fre H x v → Q v H2
def tMT (P : Program) (w : World) (K : PySem.W.Frag) (m : M Bool) : TT := fun σ H Q => ∃ ρ b B, m ρ = some b ∧ RE P w K B ρ σ H ∧ ∀ H2, Ex H H2 → Q b H2
theorem GE.pe {X : Cx} {e : Expr} {m : M W} (h : GE X e m) : PE X e (tM X.prog X.w X.K m) := by
  obtain ⟨t, p, ev⟩ := h.ex
  refine ⟨fun pins s σ H Q I hq => p.run pins s σ H Q I ?_⟩
  obtain ⟨ρ, x, B, e, R, q⟩ := hq
  exact ev ρ x B σ H Q e R q
theorem GT.pt {X : Cx} {e : Expr} {m : M Bool} (h : GT X e m) : PT X e (tMT X.prog X.w X.K m) := by
  obtain ⟨t, p, ev⟩ := h.ex
  refine ⟨fun pins s σ H Q I hq => p.run pins s σ H Q I ?_⟩
  obtain ⟨ρ, x, B, e, R, q⟩ := hq
  exact ev ρ x B σ H Q e R q

/-! ### a def's promise -/
def SpM (P : Program) (w : World) (K : PySem.W.Frag) (n : Nat) (m : List W → Option W) : Sp := fun vs H Q _ => vs.length = n ∧ Tabs K H ∧ ∃ ws r, RepWs P w K H ws vs ∧ m ws = some r ∧ ∀ v H', Ex H H' → RepW P w K H' r v ∧ Fre H r v → Q v H'
structure Cal (P : Program) (w : World) (K : PySem.W.Frag) (mg : Str → Option Value) (base : Heap) (k : Nat) (x : Str) (n : Nat) (m : List W → Option W) : Prop where
  ex : ∃ f, FnR P w K mg base CX0 k f (SpM P w K n m) ∧ mg x = some (.ref f) ∧ PySem.W.keepIn K (.ref f) = true
/-- an argument: a list is not the callee's own -/
def argW : W → W
  | .own ds => .lst ds
  | x => x
theorem argW_rep {P : Program} {w : World} {K : PySem.W.Frag} {H : Hp} : ∀ {x : W} {v : V}, RepW P w K H x v → RepW P w K H (argW x) v
  | .own ds, v, ⟨a, xs, e, h1, h2⟩ => ⟨a, xs, e, SqL.of h1, h2⟩
  | .d _, _, h => h
  | .lst _, _, h => h
  | .set _, _, h => h
  | .dct _, _, h => h
def env0 (N : Nat) (ws : List W) : Env := ws.map (fun x => some (argW x)) ++ List.replicate (N - ws.length) none
def mFn (N : Nat) (s : M Out) (ws : List W) : Option W := match s (env0 N ws) with
  | some (.rt x) => some x
  | some (.nx _) => some (.d .non)
  | _ => none
section
variable {P : Program} {w : World} {K : PySem.W.Frag} {mg : Str → Option Value} {base : Heap}
theorem repWs_len : ∀ {ws : List W} {vs : List V} {H : Hp}, RepWs P w K H ws vs → ws.length = vs.length
  | [], [], _, _ => rfl
  | x :: ws, v :: vs, _, h => by
    simp only [RepWs] at h
    rw [List.length_cons, List.length_cons, repWs_len h.2]
  | [], _ :: _, _, h => by simp only [RepWs] at h
  | _ :: _, [], _, h => by simp only [RepWs] at h
theorem repWs_get : ∀ {ws : List W} {vs : List V} {H : Hp} {i : Nat} {x : W}, RepWs P w K H ws vs → ws[i]? = some x → ∃ v, vs[i]? = some v ∧ RepW P w K H x v
  | [], _, _, i, x, _, e => by simp at e
  | x :: ws, v :: vs, _, 0, y, h, e => by
    simp only [RepWs] at h
    simp at e
    subst e
    exact ⟨v, rfl, h.1⟩
  | x :: ws, v :: vs, _, i + 1, y, h, e => by
    simp only [RepWs] at h
    obtain ⟨u, h1, h2⟩ := repWs_get (i := i) h.2 (by simpa using e)
    exact ⟨u, by simpa using h1, h2⟩
  | _ :: _, [], _, i, y, h, _ => by simp only [RepWs] at h
theorem env0_get {N i : Nat} {ws : List W} {x : W} (h : (env0 N ws)[i]? = some (some x)) : ∃ y, ws[i]? = some y ∧ x = argW y := by
  unfold env0 at h
  by_cases hi : i < ws.length
  · rw [List.getElem?_append_left (by simpa using hi), List.getElem?_map] at h
    cases e : ws[i]? with
    | none =>
      rw [e] at h
      cases h
    | some y =>
      rw [e] at h
      cases h
      exact ⟨y, rfl, rfl⟩
  · rw [List.getElem?_append_right (by simpa using hi), List.getElem?_replicate] at h
    split at h <;> cases h
theorem start_re {Ns : List Str} {ws : List W} {vs : List V} {H : Hp} (hl : vs.length ≤ Ns.length) (r : RepWs P w K H ws vs) (tb : Tabs K H) : RE P w K H (env0 Ns.length ws) (L2.start Ns vs) H where
  ex := Ex.refl H
  tab := tb
  len := by
    unfold env0 L2.start
    rw [List.length_append, List.length_append, List.length_map, List.length_map, List.length_replicate, List.length_replicate, repWs_len r]
  get := fun i x h => by
    obtain ⟨y, h1, rfl⟩ := env0_get h
    obtain ⟨v, h2, h3⟩ := repWs_get r h1
    refine ⟨v, ?_, argW_rep h3, ?_⟩
    · have hi : i < vs.length := (List.getElem?_eq_some_iff.mp h2).1
      unfold L2.start
      rw [List.getElem?_append_left (by simpa using hi), List.getElem?_map, h2]
      rfl
    · cases y <;> trivial
  base := fun i ds h => by
    obtain ⟨y, h1, e⟩ := env0_get h
    obtain ⟨v, h2, h3⟩ := repWs_get r h1
    refine ⟨v, ?_, ?_⟩
    · have hi : i < vs.length := (List.getElem?_eq_some_iff.mp h2).1
      unfold L2.start
      rw [List.getElem?_append_left (by simpa using hi), List.getElem?_map, h2]
      rfl
    · rw [e]
      exact argW_rep h3
  sep := fun i j ds es _ h _ => by
    obtain ⟨y, _, e⟩ := env0_get h
    cases y <;> cases e
/-- THE RULE for a def: its body -/
theorem fn_mk {x qual : Str} {params : Arguments} {body : List Stmt} {scope : Scope} {f : Addr} {fd : FuncData} {N ps : List Str} {k n : Nat} {s : M Out} (F : FunD K x qual params body scope [] [] f fd) (S : FnScope N ps scope) (hn : ps.length = n)
    (hb : ∀ (kV doc pm : Value) (an : Option Addr) (cdv ct : Value) (us : List Value), us.length = ps.length → bindArgs (PySem.W.fnOf x qual params body scope .none kV doc pm an cdv ct) ⟨us, []⟩ = pure (ps.zip us))
    (hbody : ∀ (cdv : Value) (A : Around) (outer : List PySem.Env) (s0 : Shared) (H : Hp) (E : XK), Room k (A.deeper (envOfC qual scope s0.heap.objs.size f cdv)) → GSs (cxOf CX0 P w K mg base N qual scope f cdv A outer s0 H E).nox body s) :
    FnR P w K mg base CX0 (k + 1) f (SpM P w K n (mFn N.length s)) := by
  have G : FnOk P w K mg base CX0 (k + 1) f fd ps (SpM P w K n (mFn N.length s)) := by
    refine F.ok S (fun vs H Q E h => by rw [h.1, hn]) (fun cdv A outer s0 H vs Q E hr h => ?_)
    obtain ⟨hl, tb, ws, r, rep, e, q⟩ := h
    obtain ⟨t, p, ev⟩ := (hbody cdv A outer s0 H E hr).ex
    have hps : ps.length ≤ N.length := by
      have z := congrArg List.length S.pre
      rw [List.length_take] at z
      omega
    have R := start_re (P := P) (w := w) (K := K) (Ns := N) (by omega) rep tb
    refine ⟨t, p.nox, ?_⟩
    unfold mFn at e
    split at e
    · rename_i y hy
      cases e
      exact ev _ _ H _ H _ hy R fun v H' e1 r1 => q v H' e1 r1
    · rename_i ρ' hy
      cases e
      exact ev _ _ H _ H _ hy R fun σ' H' R' => q _ H' R'.ex ⟨non_rep, trivial⟩
    · cases e
  have b : Binds K fd ps [] := F.bindsN hb
  exact (G.raw b .nil).imp fun vs H Q E h => by rw [List.append_nil]; exact h
theorem cal_mk {x : Str} {f : Addr} {k n : Nat} {m : List W → Option W} (F : FnR P w K mg base CX0 k f (SpM P w K n m)) (hm : mg x = some (.ref f)) (hk : PySem.W.keepIn K (.ref f) = true) : Cal P w K mg base k x n m := ⟨f, F, hm, hk⟩
end

/-! ### calls -/
def mCall (m : List W → Option W) (r : M (List W)) : M W := fun ρ => match r ρ with
  | some ws => m ws
  | none => none
section
variable {X : Cx} {x : Str} {p pos : Pos} {e : Expr} {es : List Expr} {ml : M (List W)} {k j n : Nat} {m : List W → Option W}
theorem mCall_some {ρ : Env} {y : W} (h : mCall m ml ρ = some y) : ∃ ws, ml ρ = some ws ∧ m ws = some y := by
  unfold mCall at h
  split at h
  · rename_i ws hw
    exact ⟨ws, hw, h⟩
  · cases h
def tCallR (sp : Sp) (t : TA) : TE := fun σ H Q => t σ H fun vs H1 => sp vs H1 Q E0
theorem pe_callFR {f : Addr} {sp : Sp} {t : TA} (F : FnR X.prog X.w X.K X.mg X.base CX0 k f sp) (hr : Room k X.A) (hg : Gl X x) (hm : X.mg x = some (.ref f)) (hk : PySem.W.keepIn X.K (.ref f) = true)
    (ha : PA X (e :: es) t) (hdb : (x == ("__debug__" : Str)) = false) (he : starEach (e :: es) X.env = (false, eval e X.env) :: starEach es X.env) (hpl : (backTo pos (starEach es X.env)).any (·.1) = false) :
    PE X (.Call (.Name x p) (e :: es) [] pos) (tCallR sp t) := by
  refine ⟨fun pins s σ H Q I h => ?_⟩
  refine wpAny_Call_Name_kw (ld_glob I hg hm ?_ hdb)
  refine PySem.W.callWith_K (h₀ := X.base) I.ok.mod.kin hk (thn (ha.run pos pins s σ H _ I h) fun us s1 ⟨vs, H1, I1, r, q⟩ => ⟨I1.kIn, ?_⟩) he hpl
  exact wpAny_call (run_fnR F hr pass0 I1 r q)
theorem pe_callFR0 {f : Addr} {sp : Sp} (F : FnR X.prog X.w X.K X.mg X.base CX0 k f sp) (hr : Room k X.A) (hg : Gl X x) (hm : X.mg x = some (.ref f)) (hk : PySem.W.keepIn X.K (.ref f) = true) (hdb : (x == ("__debug__" : Str)) = false) :
    PE X (.Call (.Name x p) [] [] pos) (tCallR sp tNil) := by
  refine ⟨fun pins s σ H Q I h => ?_⟩
  refine wpAny_Call_Name_kw (ld_glob I hg hm ?_ hdb)
  exact PySem.W.callWith_K0 I.kIn hk (wpAny_call (run_fnR (us := []) F hr pass0 I .nil h))
theorem spM_of {H : Hp} {ws : List W} {vs : List V} {r : W} {Q : VK} {E : XK} (hl : ws.length = n) (tb : Tabs X.K H) (rep : RepWs X.prog X.w X.K H ws vs) (e : m ws = some r) (q : ∀ v H', Ex H H' → RepX X H H' r v → Q v H') : SpM X.prog X.w X.K n m vs H Q E :=
  ⟨by rw [← repWs_len rep, hl], tb, ws, r, rep, e, q⟩
def lenOk (n : Nat) (m : M (List W)) : Prop := ∀ ρ ws, m ρ = some ws → ws.length = n
theorem lenOk_nil : lenOk 0 mNil := fun ρ ws h => by
  unfold mNil at h
  cases h
  rfl
theorem lenOk_cons {a : M W} {r : M (List W)} {n : Nat} (h : lenOk n r) : lenOk (n + 1) (mCons a r) := fun ρ ws e => by
  obtain ⟨y, ys, _, h2, rfl⟩ := mCons_some e
  rw [List.length_cons, h ρ ys h2]
theorem ge_call (c : Cal X.prog X.w X.K X.mg X.base k x n m) (hr : Room j X.A) (ha : GA X (e :: es) ml) (hl : lenOk n ml) (hk : k ≤ j := by decide) (hg : Gl X x := by rfl)
    (hdb : (x == ("__debug__" : Str)) = false := by decide) (he : starEach (e :: es) X.env = (false, eval e X.env) :: starEach es X.env := by rfl) (hpl : (backTo pos (starEach es X.env)).any (·.1) = false := by rfl) :
    GE X (.Call (.Name x p) (e :: es) [] pos) (mCall m ml) := by
  obtain ⟨f, F, hm, kp⟩ := c.ex
  obtain ⟨t, pa, ea⟩ := ha.ex
  refine ⟨_, pe_callFR F (hr.mono hk) hg hm kp pa hdb he hpl, fun ρ y B σ H Q e R q => ?_⟩
  obtain ⟨ws, h1, h2⟩ := mCall_some e
  exact ea ρ ws B σ H _ h1 R fun vs H1 e1 r1 => spM_of (hl ρ ws h1) (R.tab.ex e1) r1 h2 fun v H2 e2 r2 => q v H2 (e1.trans e2) (RepX.ex e1 r2)
theorem ge_call0 (c : Cal X.prog X.w X.K X.mg X.base k x 0 m) (hr : Room j X.A) (hk : k ≤ j := by decide) (hg : Gl X x := by rfl) (hdb : (x == ("__debug__" : Str)) = false := by decide) :
    GE X (.Call (.Name x p) [] [] pos) (mCall m mNil) := by
  obtain ⟨f, F, hm, kp⟩ := c.ex
  refine ⟨_, pe_callFR0 F (hr.mono hk) hg hm kp hdb, fun ρ y B σ H Q e R q => ?_⟩
  obtain ⟨ws, h1, h2⟩ := mCall_some e
  have hw := lenOk_nil ρ ws h1
  unfold mNil at h1
  cases h1
  exact spM_of (H := H) (vs := []) (E := E0) hw R.tab (by simp only [RepWs]) h2 q
/-- a built-in by values -/
def CalS (X : Cx) (f : Value) (m : List W → Option W) : Prop := ∃ r, CallR X f r ∧ ∀ ws y H vs Q, m ws = some y → RepWs X.prog X.w X.K H ws vs → (∀ v H2, Ex H H2 → RepX X H H2 y v → Q v H2) → r vs H Q
theorem ge_callB {id : String} (c : CalS X (.builtin id) m) (ha : GA X (e :: es) ml) (hm : X.mg x = none) (hg : Gl X x := by rfl) (hv : bootBuiltins x = some (.builtin id) := by decide +kernel) (hn : x ≠ "__name__" := by decide) (hdb : (x == ("__debug__" : Str)) = false := by decide)
    (he : starEach (e :: es) X.env = (false, eval e X.env) :: starEach es X.env := by rfl) (hpl : (backTo pos (starEach es X.env)).any (·.1) = false := by rfl) : GE X (.Call (.Name x p) (e :: es) [] pos) (mCall m ml) := by
  obtain ⟨r, cr, ec⟩ := c
  obtain ⟨t, pa, ea⟩ := ha.ex
  refine ⟨_, pe_callB cr hg hm hv pa hn hdb he hpl, fun ρ y B σ H Q e R q => ?_⟩
  obtain ⟨ws, h1, h2⟩ := mCall_some e
  exact ea ρ ws B σ H _ h1 R fun vs H1 e1 r1 => ec ws y H1 vs Q h2 r1 fun v H2 e2 r2 => q v H2 (e1.trans e2) (RepX.ex e1 r2)
theorem ge_callT {T : String} (c : CalS X (.type T) m) (ha : GA X (e :: es) ml) (hm : X.mg x = none) (hg : Gl X x := by rfl) (hv : bootBuiltins x = some (.type T) := by decide +kernel) (hn : x ≠ "__name__" := by decide) (hdb : (x == ("__debug__" : Str)) = false := by decide)
    (he : starEach (e :: es) X.env = (false, eval e X.env) :: starEach es X.env := by rfl) (hpl : (backTo pos (starEach es X.env)).any (·.1) = false := by rfl) : GE X (.Call (.Name x p) (e :: es) [] pos) (mCall m ml) := by
  obtain ⟨r, cr, ec⟩ := c
  obtain ⟨t, pa, ea⟩ := ha.ex
  refine ⟨_, pe_callTy cr hg hm hv pa hn hdb he hpl, fun ρ y B σ H Q e R q => ?_⟩
  obtain ⟨ws, h1, h2⟩ := mCall_some e
  exact ea ρ ws B σ H _ h1 R fun vs H1 e1 r1 => ec ws y H1 vs Q h2 r1 fun v H2 e2 r2 => q v H2 (e1.trans e2) (RepX.ex e1 r2)
/-- a module's name for a built-in -/
theorem ge_callM {id : String} (c : CalS X (.builtin id) m) (ha : GA X (e :: es) ml) (hm : X.mg x = some (.builtin id)) (hg : Gl X x := by rfl) (hdb : (x == ("__debug__" : Str)) = false := by decide)
    (he : starEach (e :: es) X.env = (false, eval e X.env) :: starEach es X.env := by rfl) (hpl : (backTo pos (starEach es X.env)).any (·.1) = false := by rfl) : GE X (.Call (.Name x p) (e :: es) [] pos) (mCall m ml) := by
  obtain ⟨r, cr, ec⟩ := c
  obtain ⟨t, pa, ea⟩ := ha.ex
  refine ⟨_, pe_callBfun cr hg hm pa hdb he hpl, fun ρ y B σ H Q e R q => ?_⟩
  obtain ⟨ws, h1, h2⟩ := mCall_some e
  exact ea ρ ws B σ H _ h1 R fun vs H1 e1 r1 => ec ws y H1 vs Q h2 r1 fun v H2 e2 r2 => q v H2 (e1.trans e2) (RepX.ex e1 r2)
end

/-! ### comprehensions -/
def wip (ρ : Env) : List Nat → Env
  | [] => ρ
  | v :: vs => (wip ρ vs).set v none
def lcL (g : D → Env → Option Env) (c : M Bool) (e : M W) (ρ : Env) : List D → Option (List D)
  | [] => some []
  | d :: ds => match g d ρ with
    | some ρ1 => (match c ρ1 with
      | some true => (match e ρ1 with
        | some (.d y) => (match lcL g c e ρ ds with
          | some ys => some (y :: ys)
          | none => none)
        | _ => none)
      | some false => lcL g c e ρ ds
      | none => none)
    | none => none
def mLc (it : M (List D)) (vs : List Nat) (g : D → Env → Option Env) (c : M Bool) (e : M W) : M W := fun ρ => match it ρ with
  | some ds => (match lcL g c e (wip ρ vs) ds with
    | some es => (match Nat.ble es.length 1000 with
      | true => some (.own es)
      | false => none)
    | none => none)
  | none => none
def mYes : M Bool := fun _ => some true
section
variable {P : Program} {w : World} {K : PySem.W.Frag} {B H : Hp} {ρ : Env} {σ : L2.St}
theorem unset_get {α : Type} {l : List (Option α)} {i j : Nat} {y : α} (h : (l.set i none)[j]? = some (some y)) : j ≠ i ∧ l[j]? = some (some y) := by
  by_cases e : j = i
  · subst e
    by_cases hl : j < l.length
    · rw [List.getElem?_set_self hl] at h
      cases h
    · rw [List.getElem?_eq_none_iff.mpr (by rw [List.length_set]; omega)] at h
      cases h
  · rw [List.getElem?_set_ne (Ne.symm e)] at h
    exact ⟨e, h⟩
theorem RE.unset (R : RE P w K B ρ σ H) (i : Nat) : RE P w K B (ρ.set i none) (σ.set i none) H where
  ex := R.ex
  tab := R.tab
  len := by rw [List.length_set, List.length_set, R.len]
  get := fun j y h => by
    obtain ⟨ne, h⟩ := unset_get h
    obtain ⟨u, h1, h2⟩ := R.get j y h
    exact ⟨u, by rw [List.getElem?_set_ne (Ne.symm ne)]; exact h1, h2⟩
  base := fun j ds h => by
    obtain ⟨ne, h⟩ := unset_get h
    obtain ⟨u, h1, h2⟩ := R.base j ds h
    exact ⟨u, by rw [List.getElem?_set_ne (Ne.symm ne)]; exact h1, h2⟩
  sep := fun j k ds es ne hj hk u hu hu2 => by
    obtain ⟨nj, hj⟩ := unset_get hj
    obtain ⟨nk, hk⟩ := unset_get hk
    rw [List.getElem?_set_ne (Ne.symm nj)] at hu
    rw [List.getElem?_set_ne (Ne.symm nk)] at hu2
    exact R.sep j k ds es ne hj hk u hu hu2
theorem RE.wip (R : RE P w K B ρ σ H) : ∀ vs : List Nat, RE P w K B (wip ρ vs) (wipe σ vs) H
  | [] => R
  | v :: vs => (RE.wip R vs).unset v
end
/-- a comprehension's target: only the comprehension's names change -/
def EvV (K : PySem.W.Frag) (P : Program) (w : World) (vs : List Nat) (g : TG) (m : D → Env → Option Env) : Prop := ∀ ρ ρ' d v B σ H Q, m d ρ = some ρ' → Rep K H d v → RE P w K B ρ σ H → (∀ σ', RE P w K B ρ' σ' H → wipe σ' vs = wipe σ vs → Q σ' H) → g v σ H Q
theorem wipe_set {α : Type} (l : List (Option α)) (i : Nat) (x : Option α) : (l.set i x).set i none = l.set i none := by rw [List.set_set]
theorem wipe_set_mem {σ : L2.St} {i : Nat} {x : Option V} : ∀ {vs : List Nat}, i ∈ vs → wipe (σ.set i x) vs = wipe σ vs
  | [], h => by cases h
  | v :: vs, h => by
    show (wipe (σ.set i x) vs).set v none = (wipe σ vs).set v none
    by_cases hv : i ∈ vs
    · rw [wipe_set_mem hv]
    · have e : i = v := by
        rcases List.mem_cons.mp h with e | h
        · exact e
        · exact absurd h hv
      subst e
      have key : ∀ {us : List Nat}, i ∉ us → wipe (σ.set i x) us = (wipe σ us).set i x := fun {us} => by
        induction us with
        | nil => intro _; rfl
        | cons u us ih =>
          intro hu
          show (wipe (σ.set i x) us).set u none = ((wipe σ us).set u none).set i x
          rw [ih (fun z => hu (List.mem_cons_of_mem _ z)), List.set_comm _ _ (fun z => hu (by rw [z]; exact List.mem_cons_self))]
      rw [key hv, List.set_set]
section
variable {K : PySem.W.Frag} {P : Program} {w : World} {vs : List Nat}
theorem ev_name {i : Nat} (h : i ∈ vs) : EvV K P w vs (gName i) (gNm i) := fun ρ ρ' d v B σ H Q e r R q => by
  unfold gNm at e
  cases e
  exact q _ (R.setD r) (wipe_set_mem h)
theorem ev_pair {i j : Nat} (h : i ∈ vs) (h2 : j ∈ vs) : EvV K P w vs (gTup K 2 (gCons (gName i) (gCons (gName j) gNil))) (gTp 2 (gsCons (gNm i) (gsCons (gNm j) gsNil))) := fun ρ ρ' d v B σ H Q e r R q => by
  cases d with
  | tup ds =>
    unfold gTp at e
    dsimp only at e
    split at e
    · rename_i hl
      have hl := Nat.eq_of_beq_eq_true hl
      have r' : RepW P w K H (.d (.tup ds)) v := r
      obtain ⟨a, xs, ea, h3, h4⟩ := rep_tup r'
      match ds, xs, hl, h4, e with
      | [d1, d2], [x1, x2], _, h4, e =>
        simp only [RepA] at h4
        simp only [gsCons, gNm, gsNil] at e
        cases e
        refine ⟨a, [x1, x2], ea, h3, rfl, x1, [x2], rfl, x2, [], rfl, rfl, ?_⟩
        exact q _ ((R.setD h4.1).setD h4.2.1) (by rw [wipe_set_mem h2, wipe_set_mem h])
      | [d1, d2], [], _, h4, _ => simp only [RepA] at h4
      | [d1, d2], [_], _, h4, _ => simp only [RepA] at h4; exact h4.2.elim
      | [d1, d2], _ :: _ :: _ :: _, _, h4, _ => simp only [RepA] at h4; exact h4.2.2.elim
    · cases e
  | _ => cases e
end
structure GTs (X : Cx) (ifs : List Expr) (m : M Bool) : Prop where
  ex : PTs X ifs (tMT X.prog X.w X.K m)
theorem gts_nil {X : Cx} : GTs X [] mYes := ⟨⟨fun pins s σ H Q I hq => by
  obtain ⟨ρ, b, B, e, R, q⟩ := hq
  unfold mYes at e
  cases e
  exact pts_nil.run pins s σ H Q I (q H (Ex.refl H))⟩⟩
theorem gts_one {X : Cx} {c : Expr} {m : M Bool} (h : GT X c m) : GTs X [c] m := ⟨pts_one h.pt⟩
theorem wipe_wipe {σ : L2.St} : ∀ {vs : List Nat}, wipe (wipe σ vs) vs = wipe σ vs
  | [] => rfl
  | v :: vs => by
    show wipe ((wipe σ vs).set v none) (v :: vs) = _
    rw [wipe_set_mem (vs := v :: vs) List.mem_cons_self]
    show (wipe (wipe σ vs) vs).set v none = (wipe σ vs).set v none
    rw [wipe_wipe]
/-- what the turns of a comprehension make -/
theorem lc_turns {X : Cx} {g : TG} {mg_ : D → Env → Option Env} {mc : M Bool} {me : M W} {vs : List Nat} {ρ : Env} {σ : L2.St} {B H1 : Hp} {ds es : List D} {xs : List V} {J : It} {Dl : Addr} {Q : VK} (hv : EvV X.K X.prog X.w vs g mg_)
    (R : REX X B ρ σ H1) (rA : RepA X.K H1 ds xs) (wk : Wk J H1 xs) (e : lcL mg_ mc me (wip ρ vs) ds = some es) (hl : es.length ≤ 1000) (hD : H1 Dl = none) (q : ∀ H2, Ex H1 H2 → (∃ acc, H2 Dl = some (.lst acc) ∧ RepA X.K H2 es acc) → Q (.ref Dl) H2) :
    ∃ W : Nat → Nat → Hp → Prop, (∃ m, W 0 m (upd H1 Dl (.lst []))) ∧ ∀ i m H, W i m H → (J.stop i H ∧ Q (.ref Dl) H) ∨ (J.go i H ∧ ∃ Nx : Hp → Prop, (∀ H', Nx H' → ∃ m', m' < m ∧ W (i + 1) m' H') ∧ ∀ x H', J.yld i H x H' → g x (wipe σ vs) H' fun σ2 H2 => wipe σ2 vs = wipe σ vs ∧ tMT X.prog X.w X.K mc σ2 H2 fun b H3 =>
      if b = true then tM X.prog X.w X.K me σ2 H3 fun y H4 => ∃ acc, H4 Dl = some (.lst acc) ∧ acc.length < sizeLine ∧ Nx (upd H4 Dl (.lst (acc ++ [y]))) else Nx H3) := by
  have hlen := repA_len rA
  have ww : wipe (wipe σ vs) vs = wipe σ vs := wipe_wipe
  let Pv : Nat → Hp → Prop := fun i H' => Ex H1 H' ∧ ∃ done rest acc, lcL mg_ mc me (wip ρ vs) (ds.drop i) = some rest ∧ es = done ++ rest ∧ H' Dl = some (.lst acc) ∧ RepA X.K H' done acc
  refine ⟨fun i m H' => m = ds.length - i ∧ i ≤ ds.length ∧ Pv i H', ⟨ds.length, by simp, Nat.zero_le _, Ex.new hD, [], es, [], by rw [List.drop_zero]; exact e, rfl, upd_same, by simp only [RepA]⟩, ?_⟩
  rintro i m H2 ⟨rfl, hi, e2, done, rest, acc, f2, ed, hacc, ra⟩
  by_cases hlt : i < ds.length
  · refine .inr ⟨wk.go H2 e2 i (by rw [hlen]; exact hlt), Pv (i + 1), fun H' p' => ⟨_, by omega, rfl, hlt, p'⟩, fun x H' y => ?_⟩
    obtain ⟨rfl, hx⟩ := wk.yld H2 e2 i x H' (by rw [hlen]; exact hlt) y
    obtain ⟨x', hx', rx⟩ := repA_get rA (List.getElem?_eq_getElem hlt)
    rw [hx] at hx'
    cases hx'
    rw [List.drop_eq_getElem_cons hlt] at f2
    unfold lcL at f2
    split at f2
    · rename_i ρ1 h1
      refine hv _ ρ1 _ x B (wipe σ vs) _ _ h1 (Rep.sta e2.sta _ _ rx) ((R.mono e2).wip vs) fun σ' R' hw => ⟨by rw [hw, ww], ?_⟩
      split at f2
      · rename_i hc
        refine ⟨ρ1, true, B, hc, R', fun H3 e3 => ?_⟩
        dsimp only
        rw [if_pos rfl]
        split at f2
        · rename_i yv hy
          split at f2
          · rename_i ys hys
            cases f2
            refine ⟨ρ1, _, B, hy, R'.mono e3, fun v H4 e4 r4 => ?_⟩
            have h4 : H4 Dl = some (.lst acc) := (e3.trans e4).at hacc fun _ z => nomatch z
            have ra4 := RepA.sta (e3.trans e4).sta _ _ ra
            have st := sta_lst (o := .lst (acc ++ [v])) h4
            refine ⟨acc, h4, ?_, ((e2.trans e3).trans e4).mut hD, done ++ [yv], ys, acc ++ [v], hys, by rw [ed, List.append_assoc]; rfl, upd_same, RepA.sta st _ _ (repA_app ra4 (by simp only [RepA]; exact ⟨r4.1, trivial⟩))⟩
            rw [repA_len ra]
            have z : done.length ≤ es.length := by rw [ed, List.length_append]; omega
            exact Nat.lt_of_le_of_lt (Nat.le_trans z hl) (by decide)
          · cases f2
        · cases f2
      · rename_i hc
        refine ⟨ρ1, false, B, hc, R', fun H3 e3 => ?_⟩
        dsimp only
        rw [if_neg Bool.false_ne_true]
        exact ⟨e2.trans e3, done, rest, acc, f2, ed, e3.at hacc (fun _ z => nomatch z), RepA.sta e3.sta _ _ ra⟩
      · cases f2
    · cases f2
  · have ei : i = ds.length := by omega
    subst ei
    refine .inl ⟨wk.stop H2 e2 _ (by rw [hlen]; exact Nat.le_refl _), q H2 e2 ⟨acc, hacc, ?_⟩⟩
    rw [List.drop_length] at f2
    unfold lcL at f2
    cases f2
    rw [List.append_nil] at ed
    rw [ed]
    exact ra

theorem mLc_some {it : M (List D)} {vs : List Nat} {g : D → Env → Option Env} {c : M Bool} {me : M W} {ρ : Env} {y : W} (h : mLc it vs g c me ρ = some y) : ∃ ds es, it ρ = some ds ∧ lcL g c me (wip ρ vs) ds = some es ∧ es.length ≤ 1000 ∧ y = .own es := by
  unfold mLc at h
  split at h
  · rename_i ds hd
    split at h
    · rename_i es he
      split at h
      · rename_i hl
        cases h
        exact ⟨ds, es, hd, he, Nat.le_of_ble_eq_true hl, rfl⟩
      · cases h
    · cases h
  · cases h
section
variable {X : Cx} {elt tg iter : Expr} {ifs : List Expr} {scope : Scope} {own : List (Str × Nat)} {pos : Pos} {g : TG} {gm : D → Env → Option Env} {it : M (List D)} {mc : M Bool} {me : M W}
/-- the contexts of a comprehension's block -/
abbrev Blk (X : Cx) (scope : Scope) (s : Shared) (H : Hp) (C : Addr) (cl : List (Str × Addr)) (fp : List Addr) : Cx := X.blk s H scope (compEnvC scope cl C X.env) fp
theorem ev_lc {wi : TI} {vs : List Nat} (ew : EvC X wi it) (hv : EvV X.K X.prog X.w vs g gm) : EvE X (tLc wi g (tMT X.prog X.w X.K mc) (tM X.prog X.w X.K me) vs) (mLc it vs gm mc me) := fun ρ y B σ H Q e R q => by
  obtain ⟨ds, es, h1, h2, h3, rfl⟩ := mLc_some e
  refine ew ρ ds B σ H _ h1 R fun J H1 xs e1 rA wk Dl hD => ?_
  refine lc_turns hv (R.mono e1) rA wk h2 h3 hD fun H2 e2 ⟨acc, h4, h5⟩ => ?_
  exact q _ H2 (e1.trans e2) ⟨⟨Dl, acc, rfl, h4, h5⟩, fun a z => by cases z; exact e1.back hD⟩
theorem ge_lc (hi : GC X tg iter it) (hv : EvV X.K X.prog X.w (own.map (·.2)) g gm)
    (hg : ∀ s H C cl fp, PG (Blk X scope s H C cl fp) tg g) (ht : ∀ s H C cl fp, GTs (Blk X scope s H C cl fp) ifs mc) (he : ∀ s H C cl fp, GE (Blk X scope s H C cl fp) elt me)
    (hc : X.calm = true) (hN : X.N.Nodup) (ok : BlkOk X.N X.env.scope scope own) (hs : ∀ x, foldedSetIterable iter X.env x = pure x := by intro _; rfl) :
    GE X (.ListComp elt [⟨tg, iter, ifs, 0⟩] scope pos) (mLc it (own.map (·.2)) gm mc me) := by
  obtain ⟨wi, pw, ew⟩ := hi.ex
  exact ⟨tLc wi g (tMT X.prog X.w X.K mc) (tM X.prog X.w X.K me) (own.map (·.2)), pe_lc hc hN pw ok hg (fun s H C cl fp => (ht s H C cl fp).ex) (fun s H C cl fp => (he s H C cl fp).pe) hs, ev_lc ew hv⟩
/-- y = [..], on one line, y a local -/
theorem gs_setLc (i : Nat) {y : Str} {py spos : Pos} (hi : GC X tg iter it) (hv : EvV X.K X.prog X.w (own.map (·.2)) g gm)
    (hg : ∀ s H C cl fp, PG (Blk X scope s H C cl fp) tg g) (ht : ∀ s H C cl fp, GTs (Blk X scope s H C cl fp) ifs mc) (he : ∀ s H C cl fp, GE (Blk X scope s H C cl fp) elt me)
    (hc : X.calm = true) (hN : X.N.Nodup) (ok : BlkOk X.N X.env.scope scope own) (hsw : swapsWith (.ListComp elt [⟨tg, iter, ifs, 0⟩] scope pos) (some (.Name y py)) spos.line X.env = pure true)
    (hy : X.N[i]? = some y := by rfl) (hyl : X.env.scope.names.lookup y = some .local := by rfl) (hs : ∀ x, foldedSetIterable iter X.env x = pure x := by intro _; rfl) :
    GS X (.Assign [.Name y py] (.ListComp elt [⟨tg, iter, ifs, 0⟩] scope pos) spos) (sSet i (mLc it (own.map (·.2)) gm mc me)) := by
  obtain ⟨wi, pw, ew⟩ := hi.ex
  refine ⟨tAsg (tLc wi g (tMT X.prog X.w X.K mc) (tM X.prog X.w X.K me) (own.map (·.2))) (gName i), ps_setLc hc hN hy hyl hsw pw ok hg (fun s H C cl fp => (ht s H C cl fp).ex) (fun s H C cl fp => (he s H C cl fp).pe) hs, fun ρ o B σ H D e R q => ?_⟩
  unfold sSet at e
  split at e
  · rename_i z hz
    split at e
    · rename_i hn
      cases e
      exact ev_lc ew hv ρ z B σ H _ hz R fun v H1 e1 r1 => q _ H1 (R.set e1 r1.1 r1.2 hn)
    · cases e
  · cases e
end
end DL
set_option Elab.async false
set_option linter.all false
set_option maxRecDepth 100000
set_option maxHeartbeats 4000000
/-! DLe: built-ins, objects. -/
namespace DL
open PySem PySem.Spec PyProof.Rows L2

/-! ### mirrors -/
def bAbs : List W → Option W
  | [.d (.int i)] => some (.d (.int (if i < 0 then -i else i)))
  | _ => none
def bMax2 : List W → Option W
  | [.d (.int i), .d (.int j)] => some (.d (.int (if j > i then j else i)))
  | _ => none
def bMin2 : List W → Option W
  | [.d (.int i), .d (.int j)] => some (.d (.int (if j < i then j else i)))
  | _ => none
def bMax3 : List W → Option W
  | [.d (.int i), .d (.int j), .d (.int k)] => some (.d (.int (let m := (if i < j then j else i); if m < k then k else m)))
  | _ => none
def bLen : List W → Option W
  | [.d (.tup ds)] => some (.d (.int ds.length))
  | [.own ds] => some (.d (.int ds.length))
  | [.lst ds] => some (.d (.int ds.length))
  | _ => none
def bTup : List W → Option W
  | [.d (.tup ds)] => some (.d (.tup ds))
  | [.own ds] => some (.d (.tup ds))
  | [.lst ds] => some (.d (.tup ds))
  | _ => none
def bInt : List W → Option W
  | [.d (.int i)] => some (.d (.int i))
  | [.d (.bl b)] => some (.d (.int (if b then 1 else 0)))
  | _ => none
def bGcd : List W → Option W
  | [.d (.int i), .d (.int j)] => some (.d (.int ((Nat.gcd i.natAbs j.natAbs : Nat) : Int)))
  | _ => none
def bSqrt : List W → Option W
  | [.d (.int i)] => match decide (0 ≤ i) && decide (i < 18446744073709551616) with
    | true => some (.d (.int ((Float64.isqrt i.toNat : Nat) : Int)))
    | false => none
  | _ => none
def bAny : List W → Option W
  | [.d (.tup ds)] => match intsD ds with
    | some is => some (.d (.bl (is.any fun i => i != 0)))
    | none => none
  | _ => none
def boolsD : List D → Option (List Bool)
  | [] => some []
  | .bl b :: ds => match boolsD ds with
    | some bs => some (b :: bs)
    | none => none
  | _ :: _ => none
def bAll : List W → Option W
  | [.own ds] => match boolsD ds with
    | some bs => some (.d (.bl (bs.all id)))
    | none => none
  | _ => none
def bAnyB : List W → Option W
  | [.own ds] => match boolsD ds with
    | some bs => some (.d (.bl (bs.any id)))
    | none => none
  | _ => none

section
variable {P : Program} {w : World} {K : PySem.W.Frag} {H : Hp}
theorem ws1 {x : W} {vs : List V} (h : RepWs P w K H [x] vs) : ∃ v, vs = [v] ∧ RepW P w K H x v := by
  match vs, h with
  | [v], h =>
    simp only [RepWs] at h
    exact ⟨v, rfl, h.1⟩
  | [], h => simp only [RepWs] at h
  | _ :: _ :: _, h => simp only [RepWs] at h; exact h.2.elim
theorem ws2 {x y : W} {vs : List V} (h : RepWs P w K H [x, y] vs) : ∃ v u, vs = [v, u] ∧ RepW P w K H x v ∧ RepW P w K H y u := by
  match vs, h with
  | v :: us, h =>
    have h : RepW P w K H x v ∧ RepWs P w K H [y] us := h
    obtain ⟨u, rfl, h2⟩ := ws1 (x := y) (vs := us) (show RepWs P w K H [y] us from h.2)
    exact ⟨v, u, rfl, h.1, h2⟩
  | [], h => simp only [RepWs] at h
theorem ws3 {x y z : W} {vs : List V} (h : RepWs P w K H [x, y, z] vs) : ∃ v u t, vs = [v, u, t] ∧ RepW P w K H x v ∧ RepW P w K H y u ∧ RepW P w K H z t := by
  match vs, h with
  | v :: us, h =>
    have h : RepW P w K H x v ∧ RepWs P w K H [y, z] us := h
    obtain ⟨u, t, rfl, h2, h3⟩ := ws2 (x := y) (y := z) (vs := us) (show RepWs P w K H [y, z] us from h.2)
    exact ⟨v, u, t, rfl, h.1, h2, h3⟩
  | [], h => simp only [RepWs] at h
theorem repA_bools : ∀ {ds : List D} {xs : List V} {bs : List Bool}, RepA K H ds xs → boolsD ds = some bs → xs = bs.map V.bl
  | [], [], bs, _, e => by
    simp only [boolsD] at e
    cases e
    rfl
  | [], _ :: _, _, h, _ => by simp only [RepA] at h
  | d :: ds, [], bs, h, e => by simp only [RepA] at h
  | d :: ds, x :: xs, bs, h, e => by
    simp only [RepA] at h
    cases d with
    | bl i =>
      simp only [boolsD] at e
      cases q : boolsD ds with
      | none =>
        rw [q] at e
        cases e
      | some is' =>
        rw [q] at e
        cases e
        have h1 := h.1
        simp only [Rep] at h1
        rw [h1, repA_bools h.2 q, List.map_cons]
    | _ => simp only [boolsD] at e; cases e
end

section
variable {X : Cx}
theorem cs_abs : CalS X (.builtin "abs") bAbs := ⟨_, call_abs, fun ws y H vs Q e r q => by
  unfold bAbs at e
  split at e
  · cases e
    obtain ⟨v, rfl, h⟩ := ws1 r
    exact ⟨_, by rw [rep_int h], q _ _ (Ex.refl H) ⟨int_rep, trivial⟩⟩
  · cases e⟩
theorem cs_max2 (hc : X.calm = true) : CalS X (.builtin "max") bMax2 := ⟨_, call_max2 hc, fun ws y H vs Q e r q => by
  unfold bMax2 at e
  split at e
  · cases e
    obtain ⟨v, u, rfl, h, h2⟩ := ws2 r
    exact ⟨_, _, by rw [rep_int h, rep_int h2], q _ _ (Ex.refl H) ⟨int_rep, trivial⟩⟩
  · cases e⟩
theorem cs_min2 (hc : X.calm = true) : CalS X (.builtin "min") bMin2 := ⟨_, call_min2 hc, fun ws y H vs Q e r q => by
  unfold bMin2 at e
  split at e
  · cases e
    obtain ⟨v, u, rfl, h, h2⟩ := ws2 r
    exact ⟨_, _, by rw [rep_int h, rep_int h2], q _ _ (Ex.refl H) ⟨int_rep, trivial⟩⟩
  · cases e⟩
theorem cs_max3 (hc : X.calm = true) : CalS X (.builtin "max") bMax3 := ⟨_, call_max3Nu hc, fun ws y H vs Q e r q => by
  unfold bMax3 at e
  split at e
  · cases e
    obtain ⟨v, u, t, rfl, h, h2, h3⟩ := ws3 r
    rw [rep_int h, rep_int h2, rep_int h3]
    refine ⟨_, _, _, _, rfl, ?_, q _ _ (Ex.refl H) ⟨int_rep, trivial⟩⟩
    rename_i i j k
    have h1 : nuMax2 (.int i) (.int j) = some (.int (if i < j then j else i)) := by
      simp only [nuMax2, nuLt, nuCB, Option.map_some]
      by_cases hij : i < j
      · rw [if_pos (decide_eq_true hij), if_pos hij]
      · rw [if_neg (by rw [decide_eq_false hij]; exact Bool.false_ne_true), if_neg hij]
    have h2 : ∀ m : Int, nuMax2 (.int m) (.int k) = some (.int (if m < k then k else m)) := fun m => by
      simp only [nuMax2, nuLt, nuCB, Option.map_some]
      by_cases hij : m < k
      · rw [if_pos (decide_eq_true hij), if_pos hij]
      · rw [if_neg (by rw [decide_eq_false hij]; exact Bool.false_ne_true), if_neg hij]
    unfold nuMax3
    rw [h1, Option.bind_some, h2]
  · cases e⟩
theorem cs_len : CalS X (.builtin "len") bLen := ⟨_, call_len_seq, fun ws y H vs Q e r q => by
  unfold bLen at e
  split at e
  · cases e
    obtain ⟨v, rfl, h⟩ := ws1 r
    obtain ⟨a, xs, rfl, h1, h2⟩ := rep_tup h
    exact ⟨a, xs, rfl, .inr h1, by rw [repA_len h2]; exact q _ _ (Ex.refl H) ⟨int_rep, trivial⟩⟩
  · cases e
    obtain ⟨v, rfl, a, xs, rfl, h1, h2⟩ := ws1 r
    exact ⟨a, xs, rfl, .inl (SqL.of h1), by rw [repA_len h2]; exact q _ _ (Ex.refl H) ⟨int_rep, trivial⟩⟩
  · cases e
    obtain ⟨v, rfl, a, xs, rfl, h1, h2⟩ := ws1 r
    exact ⟨a, xs, rfl, .inl h1, by rw [repA_len h2]; exact q _ _ (Ex.refl H) ⟨int_rep, trivial⟩⟩
  · cases e⟩
theorem cs_tup : CalS X (.type "tuple") bTup := ⟨_, call_tuple_of, fun ws y H vs Q e r q => by
  unfold bTup at e
  split at e
  · cases e
    obtain ⟨v, rfl, h⟩ := ws1 r
    obtain ⟨a, xs, rfl, h1, h2⟩ := rep_tup h
    exact ⟨a, xs, rfl, .inr ⟨h1, q _ _ (Ex.refl H) ⟨h, trivial⟩⟩⟩
  · cases e
    obtain ⟨v, rfl, a, xs, rfl, h1, h2⟩ := ws1 r
    exact ⟨a, xs, rfl, .inl ⟨SqL.of h1, fun l hl => q _ _ (Ex.new hl) ⟨tup_rep (SqT.of upd_same) (RepA.sta (Ex.new hl).sta _ _ h2), trivial⟩⟩⟩
  · cases e
    obtain ⟨v, rfl, a, xs, rfl, h1, h2⟩ := ws1 r
    exact ⟨a, xs, rfl, .inl ⟨h1, fun l hl => q _ _ (Ex.new hl) ⟨tup_rep (SqT.of upd_same) (RepA.sta (Ex.new hl).sta _ _ h2), trivial⟩⟩⟩
  · cases e⟩
theorem cs_int : CalS X (.type "int") bInt := ⟨_, call_int1, fun ws y H vs Q e r q => by
  unfold bInt at e
  split at e
  · cases e
    obtain ⟨v, rfl, h⟩ := ws1 r
    exact .inl ⟨_, by rw [rep_int h], q _ _ (Ex.refl H) ⟨int_rep, trivial⟩⟩
  · cases e
    obtain ⟨v, rfl, h⟩ := ws1 r
    exact .inr ⟨_, by rw [rep_bl h], q _ _ (Ex.refl H) ⟨int_rep, trivial⟩⟩
  · cases e⟩
theorem cs_gcd : CalS X (.builtin "math.gcd") bGcd := ⟨_, cr_gcd, fun ws y H vs Q e r q => by
  unfold bGcd at e
  split at e
  · cases e
    obtain ⟨v, u, rfl, h, h2⟩ := ws2 r
    exact ⟨_, _, by rw [rep_int h, rep_int h2], q _ _ (Ex.refl H) ⟨int_rep, trivial⟩⟩
  · cases e⟩
def rSqrt : List V → Hp → VK → Prop := fun vs H Q => ∃ a : Int, vs = [.int a] ∧ 0 ≤ a ∧ a < 2 ^ 64 ∧ Q (.int ((Float64.isqrt a.toNat : Nat) : Int)) H
theorem cr_sqrt : CallR X (.builtin "math.isqrt") rSqrt := by
  intro pins s σ H vs us Q I r h
  obtain ⟨a, rfl, h0, h1, q⟩ := h
  obtain ⟨u, rfl, t, rfl⟩ := vals1 r
  exact PySem.W.mg_isqrt h0 h1 ⟨.int _, H, I.tok _, ⟨_, rfl⟩, q⟩
theorem cs_sqrt : CalS X (.builtin "math.isqrt") bSqrt := ⟨_, cr_sqrt, fun ws y H vs Q e r q => by
  unfold bSqrt at e
  split at e
  · split at e
    · rename_i hb
      obtain ⟨h1, h2⟩ := and3 hb
      cases e
      obtain ⟨v, rfl, h⟩ := ws1 r
      exact ⟨_, by rw [rep_int h], of_decide_eq_true h1, of_decide_eq_true h2, q _ _ (Ex.refl H) ⟨int_rep, trivial⟩⟩
    · cases e
  · cases e⟩
theorem cs_all (hc : X.calm = true) : CalS X (.builtin "all") bAll := ⟨_, cr_all hc, fun ws y H vs Q e r q => by
  unfold bAll at e
  split at e
  · split at e
    · rename_i bs hb
      cases e
      obtain ⟨v, rfl, a, xs, rfl, h1, h2⟩ := ws1 r
      have ex := repA_bools h2 hb
      subst ex
      exact ⟨a, bs, rfl, SqL.of h1, q _ _ (Ex.refl H) ⟨bl_rep, trivial⟩⟩
    · cases e
  · cases e⟩
theorem cs_anyB (hc : X.calm = true) : CalS X (.builtin "any") bAnyB := ⟨_, cr_any hc, fun ws y H vs Q e r q => by
  unfold bAnyB at e
  split at e
  · split at e
    · rename_i bs hb
      cases e
      obtain ⟨v, rfl, a, xs, rfl, h1, h2⟩ := ws1 r
      have ex := repA_bools h2 hb
      subst ex
      exact ⟨a, bs, rfl, SqL.of h1, q _ _ (Ex.refl H) ⟨bl_rep, trivial⟩⟩
    · cases e
  · cases e⟩
/-- any(t), t a tuple of ints -/
theorem truth_ints {prog : Program} {w : World} {A : Around} {is : List Int} {its : List Value} (e : Vals (is.map V.int) its) :
    TruthOf prog w A (fun i v => its.toArray[i]? = some v) (fun i => (is.map fun j => j != 0).getD i false) := fun i v s Q E hv hq => by
  have hv' : its[i]? = some v := by simpa using hv
  have hi : i < its.length := (List.getElem?_eq_some_iff.mp hv').1
  have hl : is.length = its.length := by
    have z := e.length
    rw [List.length_map] at z
    exact z
  have h2 : (is.map V.int)[i]? = some (V.int (is[i]'(by omega))) := by rw [List.getElem?_map, List.getElem?_eq_getElem (by omega)] <;> rfl
  obtain ⟨u, hu, ru⟩ := e.get h2
  rw [hu] at hv'
  cases hv'
  obtain ⟨t, rfl⟩ := ru
  have hg : (is.map fun j => j != 0).getD i false = (is[i]'(by omega) != 0) := by rw [List.getD_eq_getElem?_getD, List.getElem?_map, List.getElem?_eq_getElem (by omega)] <;> rfl
  have hq' : Q ((is.map fun j => j != 0).getD i false) s := hq
  rw [hg] at hq'
  exact PyProof.Rows.truthy_int hq'
def rAnyT (K : PySem.W.Frag) : List V → Hp → VK → Prop := fun vs H Q => ∃ (a : Addr) (is : List Int), vs = [V.ref a] ∧ SqT K H a (is.map V.int) ∧ Q (.bl (is.any fun i => i != 0)) H
theorem cr_anyT (hc : X.calm = true) : CallR X (.builtin "any") (rAnyT X.K) := by
  intro pins s σ H vs us Q I r h
  obtain ⟨a, is, rfl, hs, q⟩ := h
  obtain ⟨its, rv, ⟨o, ho, hcl, n, hd⟩, _⟩ := I.tuple hs
  rw [Vals.ref1 r]
  have hT : s.heap.IsTuple a its.toArray := ⟨o, ho, hcl, n, hd⟩
  have hlt : a < s.heap.objs.size := Heap.lt_size ho
  refine call_any_walk (wpAny_pyIter_tuple hT ?_)
  refine ⟨_, _, _, _, _, _, _, rfl, Walks.tuple (A := X.A.in1) (I.ok.hd hc) _ a (Nat.ne_of_lt hlt) its.toArray, ⟨⟨_, Heap.get?_push_size _ rfl, rfl, rfl⟩, hT.push _⟩, truth_ints rv, fun h' tk hk => ?_⟩
  refine ⟨.bl _, H, I.kept fun b o eo => hk b o (fun hmem => ?_) (Heap.get?_push_of_some _ eo), ?_, q⟩
  · rcases List.mem_cons.mp hmem with e1 | hmem
    · exact absurd (e1 ▸ Heap.lt_size eo) (Nat.lt_irrefl _)
    · cases hmem
  · show Value.bool _ = Value.bool _
    have e1 : its.toArray.size = (is.map fun j => j != 0).length := by
      have z := rv.length
      rw [List.length_map] at z
      rw [List.size_toArray, List.length_map, z]
    rw [e1, L2.any_range, List.any_map]
    rfl
theorem cs_anyT (hc : X.calm = true) : CalS X (.builtin "any") bAny := ⟨_, cr_anyT hc, fun ws y H vs Q e r q => by
  unfold bAny at e
  split at e
  · split at e
    · rename_i bs hb
      cases e
      obtain ⟨v, rfl, h⟩ := ws1 r
      obtain ⟨a, xs, rfl, h1, h2⟩ := rep_tup h
      have ex := repA_ints h2 hb
      subst ex
      exact ⟨a, bs, rfl, h1, q _ _ (Ex.refl H) ⟨bl_rep, trivial⟩⟩
    · cases e
  · cases e⟩
end

/-! ### a < b < c -/
theorem ge_chain {X : Cx} {a b c : Expr} {ma mb mc : M W} {op op' : CmpOp} {f g : W → W → Option W} {pos : Pos} (o : OpS X (compareOp op) f) (o' : OpS X (compareOp op') g) (ha : GE X a ma) (hb : GE X b mb) (hc : GE X c mc)
    (hm : lastMarks [op, op'] [b, c] = false := by with_unfolding_all rfl) : GE X (.Compare a [op, op'] [b, c] pos) (mChain f g ma mb mc) := by
  obtain ⟨r, hr, o⟩ := o
  obtain ⟨r', hr', o'⟩ := o'
  obtain ⟨ta, pa, ea⟩ := ha.ex
  obtain ⟨tb, pb, eb⟩ := hb.ex
  obtain ⟨tc, pc, ec⟩ := hc.ex
  refine ⟨_, pe_chain hr hr' pa pb pc hm, fun ρ z B σ H Q e R q => ?_⟩
  unfold mChain at e
  split at e
  · rename_i x hx
    split at e
    · rename_i y hy
      refine ea ρ x B σ H _ hx R fun v H1 e1 r1 => ?_
      refine eb ρ y B σ H1 _ hy (R.mono e1) fun u H2 e2 r2 => ?_
      split at e
      · rename_i hxy
        refine o x y _ H2 v u _ hxy (r1.1.ex e2) r2.1 fun v' H3 e3 r3 => ⟨true, rep_bl r3.1, ?_⟩
        rw [if_pos rfl]
        split at e
        · rename_i t ht
          refine ec ρ t B σ H3 _ ht (R.mono ((e1.trans e2).trans e3)) fun v4 H4 e4 r4 => ?_
          exact o' y t z H4 u v4 Q e (r2.1.ex (e3.trans e4)) r4.1 fun v5 H5 e5 r5 => q v5 H5 ((((e1.trans e2).trans e3).trans e4).trans e5) (RepX.ex (((e1.trans e2).trans e3).trans e4) r5)
        · cases e
      · rename_i hxy
        cases e
        refine o x y _ H2 v u _ hxy (r1.1.ex e2) r2.1 fun v' H3 e3 r3 => ⟨false, rep_bl r3.1, ?_⟩
        rw [if_neg Bool.false_ne_true]
        exact q _ H3 ((e1.trans e2).trans e3) ⟨bl_rep, trivial⟩
      · cases e
    · cases e
  · cases e
end DL
set_option Elab.async false
set_option linter.all false
set_option maxRecDepth 100000
set_option maxHeartbeats 4000000
/-! DLf: objects with one slot. -/
namespace DL
open PySem PySem.Spec PyProof.Rows L2

/-! ### mirrors -/
def fSlot (c : Cn) : W → Option W
  | .d (.obj c' x) => match decide (c = c') with
    | true => some (.d x)
    | false => none
  | _ => none
def isObj (c : Cn) : W → Bool
  | .d (.obj c' _) => decide (c = c')
  | _ => false
/-- a property, a method without arguments: m of the object alone -/
def mProp (c : Cn) (m : List W → Option W) (o : M W) : M W := fun ρ => match o ρ with
  | some x => (match isObj c x with
    | true => m [x]
    | false => none)
  | none => none
/-- __init__: the slot's value from the one argument -/
def mInit (m : M W) : List W → Option D
  | [w] => match m [none, some (argW w)] with
    | some (.d x) => some x
    | _ => none
  | _ => none
def mMake (c : Cn) (m : List W → Option D) (r : M (List W)) : M W := fun ρ => match r ρ with
  | some ws => (match m ws with
    | some x => some (.d (.obj c x))
    | none => none)
  | none => none
inductive Bt where
  | int | bool | tuple
def Bt.nm : Bt → String
  | .int => "int" | .bool => "bool" | .tuple => "tuple"
def isB : Bt → D → Option Bool
  | .int, .int _ => some true
  | .int, .bl _ => some true
  | .int, .tup _ => some false
  | .int, .non => some false
  | .bool, .int _ => some false
  | .bool, .bl _ => some true
  | .bool, .tup _ => some false
  | .bool, .non => some false
  | .tuple, .int _ => some false
  | .tuple, .bl _ => some false
  | .tuple, .tup _ => some true
  | .tuple, .non => some false
  | _, _ => none
def fIsB (t : Bt) : W → Option W
  | .d x => match isB t x with
    | some b => some (.d (.bl b))
    | none => none
  | _ => none
def fIsC (c : Cn) : W → Option W
  | .d (.obj c' _) => match decide (c = c') with
    | true => some (.d (.bl true))
    | false => none
  | .d (.tup _) => some (.d (.bl false))
  | _ => none

/-! ### what the text says of a class -/
structure ClsF (K : PySem.W.Frag) (c : Cn) : Prop where
  cl : SlX.SCls K (ca K c)
  isi : SlX.SIsi K (ca K c)
  slf : PySem.W.kitOne K (.ref (ca K c)) (.ref (ca K c)) = some true
  tup : PySem.W.kitOne K (.type "tuple") (.ref (ca K c)) = some false
  kp : PySem.W.keepIn K (.ref (ca K c)) = true
/-- its slot -/
structure SlotF (K : PySem.W.Frag) (c : Cn) (f : Str) : Prop where
  ex : ∃ p, SlX.Slot1 K (ca K c) f p 0
/-- a property -/
structure PropF (P : Program) (w : World) (K : PySem.W.Frag) (mg : Str → Option Value) (base : Heap) (k : Nat) (c : Cn) (f : Str) (m : List W → Option W) : Prop where
  ex : ∃ p g, PySem.W.findIn K (.ref (ca K c)) f = some (some (.ref p)) ∧ PySem.W.specialIn K (.ref p) "__get__" = some (some (.builtin "property.__get__")) ∧ PySem.W.takesIn K (.ref p) = some true ∧ (∃ rest, PySem.W.recIn K p "property" = some (.ref g :: rest)) ∧
    FnR P w K mg base CX0 k g (SpM P w K 1 m)
structure MethF (P : Program) (w : World) (K : PySem.W.Frag) (mg : Str → Option Value) (base : Heap) (k : Nat) (c : Cn) (f : Str) (m : List W → Option W) : Prop where
  ex : ∃ g, Meth K (ca K c) f g ∧ FnR P w K mg base CX0 k g (SpM P w K 1 m)
/-- __init__'s promise -/
def SpI (P : Program) (w : World) (K : PySem.W.Frag) (c : Cn) (m : List W → Option D) : Sp := fun vs H Q _ => ∃ x dx v y d, vs = [.ref x, v] ∧ H x = some (.ins (ca K c) dx []) ∧ H dx = some (.own x) ∧ dx ≠ x ∧ Tabs K H ∧ RepW P w K H y v ∧ m [y] = some d ∧
  ∀ v' H2, Ex H H2 → Rep K H2 d v' → Q .non (SlX.slH H2 x (ca K c) dx [some v'])
structure MakF (P : Program) (w : World) (K : PySem.W.Frag) (mg : Str → Option Value) (base : Heap) (k : Nat) (c : Cn) (m : List W → Option D) : Prop where
  ex : ∃ g, Mk K (ca K c) g ∧ FnR P w K mg base CX0 k g (SpI P w K c m)

section
variable {P : Program} {w : World} {K : PySem.W.Frag} {H H2 : Hp}
theorem rep_obj {c : Cn} {x : D} {v : V} (h : RepW P w K H (.d (.obj c x)) v) : ∃ a dx u, v = .ref a ∧ SlX.Slt H a (ca K c) dx [some u] ∧ Rep K H x u := by
  have h' : Rep K H (.obj c x) v := h
  simp only [Rep] at h'
  obtain ⟨a, dx, u, e, h1, h2, h3⟩ := h'
  exact ⟨a, dx, u, e, .inr ⟨h1, h2⟩, h3⟩
theorem slH_sta {x C dx : Addr} {vs : List (Option V)} (h1 : H x = some (.ins C dx [])) (h2 : H dx = some (.own x)) : Sta H (SlX.slH H x C dx vs) := fun a o e n => by
  rw [SlX.slH_ne (fun z => ?_) (fun z => ?_)]
  · exact e
  · rw [z, h1] at e
    rw [← Option.some.inj e] at n
    cases n
  · rw [z, h2] at e
    rw [← Option.some.inj e] at n
    cases n
theorem isObj_some {c : Cn} {x : W} (h : isObj c x = true) : ∃ d, x = .d (.obj c d) := by
  cases x with
  | d y =>
    cases y with
    | obj c' z =>
      have e : c = c' := of_decide_eq_true h
      subst e
      exact ⟨z, rfl⟩
    | _ => cases h
  | _ => cases h
end

section
variable {X : Cx} {o e : Expr} {m : M W} {pos : Pos} {f : Str} {c : Cn}
theorem ge_slot (c : Cn) (ho : GE X o m) (C : ClsF X.K c) (S : SlotF X.K c f) (hb : attributeBase o f X.env (eval o X.env) = eval o X.env := by rfl) : GE X (.Attribute o f pos) (mUn (fSlot c) m) := by
  obtain ⟨t, p, ev⟩ := ho.ex
  obtain ⟨q, S⟩ := S.ex
  refine ⟨_, SlX.pe_sl p hb, fun ρ z B σ H Q e R k => ?_⟩
  obtain ⟨x, hx, e2⟩ := mUn_some e
  unfold fSlot at e2
  split at e2
  · rename_i c' d
    split at e2
    · rename_i hc
      have ec : c = c' := of_decide_eq_true hc
      subst ec
      cases e2
      refine ev ρ _ B σ H _ hx R fun v H1 e1 r1 => ?_
      obtain ⟨a, dx, u, rfl, h1, h2⟩ := rep_obj r1.1
      exact ⟨a, _, dx, q, _, 0, u, rfl, h1, C.cl, S, rfl, k u H1 e1 ⟨h2, trivial⟩⟩
    · cases e2
  · cases e2
theorem ge_prop {k j : Nat} (c : Cn) {mf : List W → Option W} (ho : GE X o m) (C : ClsF X.K c) (F : PropF X.prog X.w X.K X.mg X.base k c f mf) (hr : Room j X.A) (hk : k + 1 ≤ j := by decide) (hb : attributeBase o f X.env (eval o X.env) = eval o X.env := by rfl) : GE X (.Attribute o f pos) (mProp c mf m) := by
  obtain ⟨t, p, ev⟩ := ho.ex
  obtain ⟨q, g, h1, h2, h3, h4, F⟩ := F.ex
  refine ⟨_, SlX.pe_propSl (E := E0) p C.cl h1 h2 h3 h4 F (hr.mono hk) (fun _ _ _ _ z => z.elim) hb, fun ρ z B σ H Q e R k => ?_⟩
  unfold mProp at e
  split at e
  · rename_i x hx
    split at e
    · rename_i ho
      obtain ⟨d, rfl⟩ := isObj_some ho
      refine ev ρ _ B σ H _ hx R fun v H1 e1 r1 => ?_
      obtain ⟨a, dx, u, rfl, h5, h6⟩ := rep_obj r1.1
      exact ⟨a, dx, _, rfl, h5, spM_of (n := 1) (E := E0) (ws := [.d (.obj c d)]) rfl (R.tab.ex e1) (by simp only [RepWs]; exact ⟨r1.1, trivial⟩) e fun v' H' e' r' => k v' H' (e1.trans e') (RepX.ex e1 r')⟩
    · cases e
  · cases e
theorem ge_meth0 {k j : Nat} (c : Cn) {mf : List W → Option W} {apos : Pos} {pl : Sem Bool} (ho : GE X o m) (C : ClsF X.K c) (F : MethF X.prog X.w X.K X.mg X.base k c f mf) (hr : Room j X.A) (hk : k ≤ j := by decide)
    (ht : eval (.Call (.Attribute o f apos) [] [] pos) X.env = (do
      let ov ← eval o X.env
      standAt apos.atName
      let (f, first) ← holding [ov] (getMethod ov f pl)
      callWith pos f first (backTo pos (starEach [] X.env)) (backToKw pos (keywordEach [] X.env))) := by rfl) : GE X (.Call (.Attribute o f apos) [] [] pos) (mProp c mf m) := by
  obtain ⟨t, p, ev⟩ := ho.ex
  obtain ⟨g, h1, F⟩ := F.ex
  refine ⟨_, SlX.pe_methSl0 (pl := pl) (E := E0) p C.cl h1 F (hr.mono hk) pass0 ht, fun ρ z B σ H Q e R k => ?_⟩
  unfold mProp at e
  split at e
  · rename_i x hx
    split at e
    · rename_i ho
      obtain ⟨d, rfl⟩ := isObj_some ho
      refine ev ρ _ B σ H _ hx R fun v H1 e1 r1 => ?_
      obtain ⟨a, dx, u, rfl, h5, h6⟩ := rep_obj r1.1
      exact ⟨a, dx, _, rfl, h5, spM_of (n := 1) (E := E0) (ws := [.d (.obj c d)]) rfl (R.tab.ex e1) (by simp only [RepWs]; exact ⟨r1.1, trivial⟩) e fun v' H' e' r' => k v' H' (e1.trans e') (RepX.ex e1 r')⟩
    · cases e
  · cases e

/-! ### C(e) -/
theorem ge_make {k j : Nat} (c : Cn) {mi : List W → Option D} {x : Str} {p : Pos} {ml : M (List W)} {es : List Expr} (F : MakF X.prog X.w X.K X.mg X.base k c mi) (hm : X.mg x = some (.ref (ca X.K c))) (hr : Room j X.A) (ha : GA X (e :: es) ml) (hl : lenOk 1 ml) (hk : k + 1 ≤ j := by decide) (hg : Gl X x := by rfl)
    (hdb : (x == ("__debug__" : Str)) = false := by decide) (he : starEach (e :: es) X.env = (false, eval e X.env) :: starEach es X.env := by rfl) (hpl : (backTo pos (starEach es X.env)).any (·.1) = false := by rfl) :
    GE X (.Call (.Name x p) (e :: es) [] pos) (mMake c mi ml) := by
  obtain ⟨g, M, F⟩ := F.ex
  obtain ⟨t, pa, ea⟩ := ha.ex
  refine ⟨_, StX.pe_makeR M F (hr.mono hk) hg hm pass0 pa hdb he hpl, fun ρ y B σ H Q e R q => ?_⟩
  unfold mMake at e
  split at e
  · rename_i ws hw
    split at e
    · rename_i d hd
      cases e
      refine ea ρ ws B σ H _ hw R fun vs H1 e1 r1 a dx ha hdx ne => ?_
      have h1 := hl ρ ws hw
      match ws, h1, r1, hd with
      | [y], _, r1, hd =>
        obtain ⟨v, rfl, rv⟩ := ws1 r1
        have eN : Ex H1 (upd (upd H1 dx (.own a)) a (.ins (ca X.K c) dx [])) := (Ex.new hdx).trans (Ex.new (by rw [upd_ne (Ne.symm ne)]; exact ha))
        refine ⟨a, dx, v, y, d, rfl, upd_same, by rw [upd_ne ne, upd_same], ne, (R.tab.ex e1).ex eN, rv.ex eN, hd, fun v' H2 e2 r2 => ⟨rfl, ?_⟩⟩
        have i1 : H2 a = some (.ins (ca X.K c) dx []) := e2.at upd_same fun _ z => nomatch z
        have i2 : H2 dx = some (.own a) := e2.at (by rw [upd_ne ne, upd_same]) fun _ z => nomatch z
        have st := slH_sta (vs := [some v']) i1 i2
        refine q _ _ (e1.trans fun b o hb => ?_) ⟨?_, trivial⟩
        · have nb1 : b ≠ a := ne_of_none hb ha
          have nb2 : b ≠ dx := ne_of_none hb hdx
          have e3 := eN.trans e2
          rcases e3 b o hb with z | ⟨z1, z2⟩
          · exact .inl (by rw [SlX.slH_ne nb1 nb2]; exact z)
          · exact .inr ⟨z1, TabG.at z2 (SlX.slH_ne nb1 nb2)⟩
        · show Rep X.K _ (.obj c d) (.ref a)
          simp only [Rep]
          refine ⟨a, dx, v', rfl, upd_same, ?_, Rep.sta st _ _ r2⟩
          unfold SlX.slH
          rw [upd_ne ne, upd_same]
    · cases e
  · cases e

/-! ### isinstance -/
def rIsiX (K : PySem.W.Frag) (u : Value) : List V → Hp → VK → Prop := fun xs H Q => rIsi K xs H Q ∨ SlX.rIsiSl K u xs H Q
theorem call_isiX (u : Value) : CallR X (.builtin "isinstance") (rIsiX X.K u) := by
  intro pins s σ H xs us Q I r h
  rcases h with h | h
  · exact call_isi pins s σ H xs us Q I r h
  · exact SlX.call_isiSl u pins s σ H xs us Q I r h
theorem ty_tup {K : PySem.W.Frag} {H : Hp} {a : Addr} {xs : List V} (h : SqT K H a xs) : TyX K H (.ref a) (.type "tuple") := by
  rcases h with (h | ⟨o, h⟩) | ⟨o, its, n, h, hc, _⟩
  · exact .base (.tup h)
  · exact .fTuple h
  · exact .kTuple h hc
theorem ge_isB (t : Bt) {x : Str} {p p2 : Pos} (ho : GE X e m) (hm : X.mg "isinstance" = none) (hm2 : X.mg x = none) (hx : x = Str.ofString t.nm) (hg : Gl X "isinstance" := by rfl) (hg2 : Gl X x := by rfl)
    (hv : bootBuiltins x = some (.type t.nm) := by decide +kernel) (hn : x ≠ "__name__" := by decide) (hd : (x == ("__debug__" : Str)) = false := by decide)
    (he : starEach [e, .Name x p2] X.env = (false, eval e X.env) :: starEach [.Name x p2] X.env := by rfl) (he2 : starEach [.Name x p2] X.env = (false, eval (.Name x p2) X.env) :: starEach [] X.env := by rfl) (hpl : (backTo pos (starEach [.Name x p2] X.env)).any (·.1) = false := by rfl) :
    GE X (.Call (.Name "isinstance" p) [e, .Name x p2] [] pos) (mUn (fIsB t) m) := by
  obtain ⟨te, pe, ev⟩ := ho.ex
  have pn : PE X (.Name x p2) (tC (.ty t.nm)) := pe_bltn hg2 hm2 hv rfl hn hd
  refine ⟨_, pe_callB call_isi hg hm (by decide +kernel) (pa_cons pe (pa_cons pn pa_nil he2) he) (by decide) (by decide) he hpl, fun ρ z B σ H Q e R k => ?_⟩
  obtain ⟨y, hy, e2⟩ := mUn_some e
  refine ev ρ _ B σ H _ hy R fun v H1 e1 r1 => ?_
  unfold fIsB at e2
  split at e2
  · rename_i d
    split at e2
    · rename_i b hb
      cases e2
      have fin : ∀ u : Value, TyX X.K H1 v u → PySem.W.kitOne X.K u (.type t.nm) = some b → rIsi X.K [v, .ty t.nm] H1 Q := fun u h1 h2 => ⟨v, .ty t.nm, u, .type t.nm, b, rfl, .ty _, h1, h2, k _ H1 e1 ⟨bl_rep, trivial⟩⟩
      have r2 : Rep X.K H1 d v := r1.1
      cases d with
      | int i =>
        simp only [Rep] at r2
        subst r2
        refine fin _ (.base (.int i)) ?_
        cases t <;> cases hb <;> exact kit_ty (by decide +kernel)
      | bl i =>
        simp only [Rep] at r2
        subst r2
        refine fin _ (.base (.bl i)) ?_
        cases t <;> cases hb <;> exact kit_ty (by decide +kernel)
      | non =>
        simp only [Rep] at r2
        subst r2
        refine fin _ (.base .non) ?_
        cases t <;> cases hb <;> exact kit_ty (by decide +kernel)
      | tup ds =>
        obtain ⟨a, xs, rfl, h1, h2⟩ := rep_tup r1.1
        refine fin _ (ty_tup h1) ?_
        cases t <;> cases hb <;> exact kit_ty (by decide +kernel)
      | str _ => cases t <;> cases hb
      | obj _ _ => cases t <;> cases hb
    · cases e2
  · cases e2
theorem ge_isC (c : Cn) {x : Str} {p p2 : Pos} (ho : GE X e m) (C : ClsF X.K c) (hm : X.mg "isinstance" = none) (hm2 : X.mg x = some (.ref (ca X.K c))) (hg : Gl X "isinstance" := by rfl) (hg2 : Gl X x := by rfl) (hd : (x == ("__debug__" : Str)) = false := by decide)
    (he : starEach [e, .Name x p2] X.env = (false, eval e X.env) :: starEach [.Name x p2] X.env := by rfl) (he2 : starEach [.Name x p2] X.env = (false, eval (.Name x p2) X.env) :: starEach [] X.env := by rfl) (hpl : (backTo pos (starEach [.Name x p2] X.env)).any (·.1) = false := by rfl) :
    GE X (.Call (.Name "isinstance" p) [e, .Name x p2] [] pos) (mUn (fIsC c) m) := by
  obtain ⟨te, pe, ev⟩ := ho.ex
  have pn : PE X (.Name x p2) (tC (.ref (ca X.K c))) := pe_glob hg2 hm2 rfl hd
  refine ⟨_, pe_callB (call_isiX (.ref (ca X.K c))) hg hm (by decide +kernel) (pa_cons pe (pa_cons pn pa_nil he2) he) (by decide) (by decide) he hpl, fun ρ z B σ H Q e R k => ?_⟩
  obtain ⟨y, hy, e2⟩ := mUn_some e
  refine ev ρ _ B σ H _ hy R fun v H1 e1 r1 => ?_
  unfold fIsC at e2
  split at e2
  · rename_i c' d
    split at e2
    · rename_i hc
      have ec : c = c' := of_decide_eq_true hc
      subst ec
      cases e2
      obtain ⟨a, dx, u, rfl, h5, h6⟩ := rep_obj r1.1
      exact .inr ⟨a, _, dx, _, .ref (ca X.K c), true, rfl, rfl, fun _ z => z, h5, C.cl, C.isi, C.slf, k _ H1 e1 ⟨bl_rep, trivial⟩⟩
    · cases e2
  · cases e2
    obtain ⟨a, xs, rfl, h1, h2⟩ := rep_tup r1.1
    exact .inl ⟨.ref a, .ref (ca X.K c), _, .ref (ca X.K c), false, rfl, .own _, ty_tup h1, C.tup, k _ H1 e1 ⟨bl_rep, trivial⟩⟩
  · cases e2
end

/-! ### __init__: self.f = e -/
section
variable {P : Program} {w : World} {K : PySem.W.Frag} {mg : Str → Option Value} {base : Heap}
theorem fn_init {qual fld : Str} {params : Arguments} {scope : Scope} {f : Addr} {fd : FuncData} {a : Str} {k : Nat} {c : Cn} {e : Expr} {p1 p2 p3 : Pos} {m : M W} {body : List Stmt} (F : FunD K "__init__" qual params body scope [] [] f fd) (S : FnScope ["self", a] ["self", a] scope)
    (hb : ∀ (kV doc pm : Value) (an : Option Addr) (cdv ct : Value) (us : List Value), us.length = 2 → bindArgs (PySem.W.fnOf "__init__" qual params body scope .none kV doc pm an cdv ct) ⟨us, []⟩ = pure ((["self", a] : List Str).zip us))
    (C : ClsF K c) (SF : SlotF K c fld) (eb : body = [.Assign [.Attribute (.Name "self" p1) fld p2] e p3])
    (hbody : ∀ (cdv : Value) (A : Around) (outer : List PySem.Env) (s0 : Shared) (H : Hp) (E : XK), Room k (A.deeper (envOfC qual scope s0.heap.objs.size f cdv)) → GE (cxOf CX0 P w K mg base ["self", a] qual scope f cdv A outer s0 H E).nox e m ∧
      swapsWith e (some (.Attribute (.Name "self" p1) fld p2)) p3.line (envOfC qual scope s0.heap.objs.size f cdv) = pure false ∧ Vis scope "self") :
    FnR P w K mg base CX0 (k + 1) f (SpI P w K c (mInit m)) := by
  subst eb
  obtain ⟨q, SF⟩ := SF.ex
  have G : FnOk P w K mg base CX0 (k + 1) f fd ["self", a] (SpI P w K c (mInit m)) := by
    refine F.ok S (fun vs H Q E h => ?_) (fun cdv A outer s0 H vs Q E hr h => ?_)
    · obtain ⟨x, dx, v, y, d, rfl, _⟩ := h
      rfl
    · obtain ⟨x, dx, v, y, d, rfl, hx, hdx, ne, tb, r, em, k⟩ := h
      obtain ⟨ge, sw, vis⟩ := hbody cdv A outer s0 H E hr
      obtain ⟨t, p, ev⟩ := ge.ex
      refine ⟨_, PSs.nox (pss_one (SlX.ps_sl (pe_var (i := 0) rfl vis) p sw)), ?_⟩
      unfold mInit at em
      dsimp only at em
      split at em
      · rename_i d' hd
        cases em
        have R : RE P w K H [none, some (argW y)] (L2.start (["self", a] : List Str) [.ref x, v]) H := {
          ex := Ex.refl H
          tab := tb
          len := rfl
          get := fun i z hz => by
            match i, hz with
            | 1, hz =>
              cases hz
              refine ⟨v, rfl, argW_rep r, ?_⟩
              cases y <;> trivial
          base := fun i ds hz => by
            match i, hz with
            | 1, hz =>
              have e1 : argW y = .lst ds := Option.some.inj (Option.some.inj hz)
              exact ⟨v, rfl, by rw [← e1]; exact argW_rep r⟩
          sep := fun i j ds es nij hi hj => by
            match i, j, hi, hj with
            | 1, 1, _, _ => exact absurd rfl nij }
        refine ev _ _ H _ H _ hd R fun v' H2 e2 r2 => ?_
        have i1 : H2 x = some (.ins (ca K c) dx []) := e2.at hx fun _ z => nomatch z
        exact ⟨.ref x, rfl, x, _, dx, q, [], 0, rfl, .inl ⟨i1, rfl⟩, C.cl, SF, k v' H2 e2 r2.1⟩
      · cases em
  have b : Binds K fd ["self", a] [] := F.bindsN hb
  exact (G.raw b .nil).imp fun vs H Q E h => by rw [List.append_nil]; exact h
end
end DL
set_option Elab.async false
set_option linter.all false
set_option maxRecDepth 100000
set_option maxHeartbeats 4000000
/-! DLm: the mirrors of the rarer constructs. -/
namespace DL
open PySem PySem.Spec PyProof.Rows L2
def mNone : M W := fun _ => none
def sDrop (m : M W) : M Out := fun ρ => match m ρ with
  | some _ => some (.nx ρ)
  | none => none
/-- *e in a display -/
def mStar (m : M W) (r : M (List W)) : M (List W) := fun ρ => match m ρ with
  | some (.d (.tup ds)) => (match r ρ with
    | some xs => some (ds.map W.d ++ xs)
    | none => none)
  | some (.own ds) => (match r ρ with
    | some xs => some (ds.map W.d ++ xs)
    | none => none)
  | some (.lst ds) => (match r ρ with
    | some xs => some (ds.map W.d ++ xs)
    | none => none)
  | _ => none
def tupK (k : List Int) : D := .tup (k.map D.int)
def insK (k : List Int) : List (List Int) → List (List Int)
  | [] => [k]
  | x :: xs => match HT.lexLt x k with
    | true => x :: insK k xs
    | false => k :: x :: xs
def isortK : List (List Int) → List (List Int)
  | [] => []
  | k :: ks => insK k (isortK ks)
def memK (k : List Int) : List (List Int) → Bool
  | [] => false
  | x :: xs => match decide (x = k) with
    | true => true
    | false => memK k xs
/-- each once -/
def onceK (done : List (List Int)) : List (List Int) → List (List Int)
  | [] => done
  | k :: ks => match memK k done with
    | true => onceK done ks
    | false => onceK (done ++ [k]) ks
def neK : List (List Int) → Bool
  | [] => true
  | [] :: _ => false
  | (_ :: _) :: ks => neK ks
def sortD (ds : List D) : Option W := match keysD ds with
  | some ks => (match neK ks && Nat.ble ks.length 1000 with
    | true => some (.own ((isortK ks).map tupK))
    | false => none)
  | none => none
def bSorted : List W → Option W
  | [.own ds] => sortD ds
  | [.lst ds] => sortD ds
  | [.set ds] => sortD ds
  | [.dct ds] => sortD ds
  | _ => none
def setD (ds : List D) : Option W := match keysD ds with
  | some ks => (match neK ks && Nat.ble ks.length 60 with
    | true => some (.set ((onceK [] ks).map tupK))
    | false => none)
  | none => none
def bSet : List W → Option W
  | [.own ds] => setD ds
  | [.lst ds] => setD ds
  | _ => none
def mSc (it : M (List D)) (vs : List Nat) (g : D → Env → Option Env) (c : M Bool) (e : M W) : M W := fun ρ => match it ρ with
  | some ds => (match lcL g c e (wip ρ vs) ds with
    | some es => setD es
    | none => none)
  | none => none
def dctD (ds : List D) : Option W := match keysD ds with
  | some ks => (match neK ks && Nat.ble ks.length 60 with
    | true => some (.dct ((onceK [] ks).map tupK))
    | false => none)
  | none => none
def mDc (it : M (List D)) (vs : List Nat) (g : D → Env → Option Env) (c : M Bool) (e : M W) : M W := fun ρ => match it ρ with
  | some ds => (match lcL g c e (wip ρ vs) ds with
    | some es => dctD es
    | none => none)
  | none => none
def lc2In (i j : Nat) (c : M Bool) (e : M W) (ρ : Env) : List D → Option (List D)
  | [] => some []
  | d :: ds => match c (ρ.set j (some (.d d))) with
    | some true => (match e (ρ.set j (some (.d d))) with
      | some (.d y) => (match lc2In i j c e ρ ds with
        | some ys => some (y :: ys)
        | none => none)
      | _ => none)
    | some false => lc2In i j c e ρ ds
    | none => none
def lc2Out (i j : Nat) (it1 : M (List D)) (c : M Bool) (e : M W) (ρ : Env) : List D → Option (List D)
  | [] => some []
  | d :: ds => match it1 (ρ.set i (some (.d d))) with
    | some ds1 => (match lc2In i j c e ((ρ.set i (some (.d d))).set j none) ds1 with
      | some ys => (match lc2Out i j it1 c e ρ ds with
        | some zs => some (ys ++ zs)
        | none => none)
      | none => none)
    | none => none
def mLc2 (it : M (List D)) (i : Nat) (it1 : M (List D)) (j : Nat) (c : M Bool) (e : M W) : M W := fun ρ => match it ρ with
  | some ds => (match lc2Out i j it1 c e (wip ρ [i, j]) ds with
    | some es => (match Nat.ble es.length 1000 with
      | true => some (.own es)
      | false => none)
    | none => none)
  | none => none
/-- next((x for x in it if c), None) -/
def nextL (i : Nat) (c : M Bool) (ρ : Env) : List D → Option W
  | [] => some (.d .non)
  | d :: ds => match c (ρ.set i (some (.d d))) with
    | some true => some (.d d)
    | some false => nextL i c ρ ds
    | none => none
def mNext (it : M (List D)) (i : Nat) (c : M Bool) : M W := fun ρ => match Nat.blt i ρ.length with
  | true => (match it ρ with
    | some ds => nextL i c ρ ds
    | none => none)
  | false => none
end DL
set_option Elab.async false
set_option linter.all false
set_option maxRecDepth 100000
set_option maxHeartbeats 4000000
/-! DLs: sorted, set, stars, and what is never reached. -/
namespace DL
open PySem PySem.Spec PyProof.Rows L2

/-! ### the order of lists of ints -/
def encK (k : List Int) : PyData := .tuple (k.map PyData.int)
def leK (a b : List Int) : Bool := !HT.lexLt b a
theorem lexLt_eq : ∀ a b : List Int, HT.lexLt a b = decide (a < b)
  | [], [] => by simp [HT.lexLt]
  | [], _ :: _ => by simp [HT.lexLt]
  | _ :: _, [] => by simp [HT.lexLt]
  | x :: xs, y :: ys => by
    rw [HT.lexLt, lexLt_eq xs ys]
    by_cases h : x = y
    · rw [if_pos h]
      simp [h, List.cons_lt_cons_iff]
    · rw [if_neg h]
      simp [h, List.cons_lt_cons_iff]
theorem dataLt_encK (a b : List Int) : PySem.W.dataLt (encK a) (encK b) = HT.lexLt a b := by
  unfold encK
  rw [PySem.W.dataLt_tuple, lexLt_eq]
  exact PySem.W.dataLt_ints a b
theorem lexLt_irrefl : ∀ a : List Int, HT.lexLt a a = false
  | [] => rfl
  | x :: xs => by rw [HT.lexLt, if_pos rfl, lexLt_irrefl xs]
theorem lexLt_trans {a b c : List Int} : HT.lexLt a b = true → HT.lexLt b c = true → HT.lexLt a c = true := by
  induction a generalizing b c with
  | nil =>
    intro h1 h2
    cases b with
    | nil => cases h1
    | cons y ys =>
      cases c with
      | nil => cases h2
      | cons z zs => rfl
  | cons x xs ih =>
    intro h1 h2
    cases b with
    | nil => cases h1
    | cons y ys =>
      cases c with
      | nil => cases h2
      | cons z zs =>
        rw [HT.lexLt] at h1 h2 ⊢
        by_cases e1 : x = y
        · subst e1
          rw [if_pos rfl] at h1
          by_cases e2 : x = z
          · subst e2
            rw [if_pos rfl] at h2 ⊢
            exact ih h1 h2
          · rw [if_neg e2] at h2 ⊢
            exact h2
        · rw [if_neg e1] at h1
          have l1 := of_decide_eq_true h1
          by_cases e2 : y = z
          · subst e2
            rw [if_neg e1]
            exact h1
          · rw [if_neg e2] at h2
            have l2 := of_decide_eq_true h2
            have ne : ¬ x = z := by omega
            rw [if_neg ne]
            exact decide_eq_true (by omega)
theorem lexLt_total {a b : List Int} : HT.lexLt a b = false → HT.lexLt b a = false → a = b := by
  induction a generalizing b with
  | nil =>
    intro h1 h2
    cases b with
    | nil => rfl
    | cons y ys => cases h1
  | cons x xs ih =>
    intro h1 h2
    cases b with
    | nil => cases h2
    | cons y ys =>
      rw [HT.lexLt] at h1 h2
      by_cases e : x = y
      · subst e
        rw [if_pos rfl] at h1 h2
        rw [ih h1 h2]
      · rw [if_neg e] at h1
        rw [if_neg (Ne.symm e)] at h2
        have l1 := of_decide_eq_false h1
        have l2 := of_decide_eq_false h2
        omega
theorem leK_anti {a b : List Int} (h1 : leK a b = true) (h2 : leK b a = true) : a = b := by
  unfold leK at h1 h2
  rw [Bool.not_eq_true'] at h1 h2
  exact lexLt_total h2 h1
theorem leK_total (a b : List Int) : leK a b = true ∨ leK b a = true := by
  unfold leK
  cases h : HT.lexLt b a with
  | false => exact .inl rfl
  | true =>
    cases h2 : HT.lexLt a b with
    | false => exact .inr rfl
    | true =>
      have z := lexLt_trans h h2
      rw [lexLt_irrefl] at z
      cases z
theorem leK_trans (a b c : List Int) (h1 : leK a b = true) (h2 : leK b c = true) : leK a c = true := by
  rcases leK_total a c with h | h
  · exact h
  · have e1 : leK a c = true ∨ a = c := by
      rcases leK_total c b with h3 | h3
      · have e : b = c := leK_anti h2 h3
        subst e
        exact .inl h1
      · unfold leK at *
        cases q : HT.lexLt c a with
        | false => exact .inl rfl
        | true =>
          rw [Bool.not_eq_true'] at h1 h2
          cases q2 : HT.lexLt a b with
          | true =>
            have z := lexLt_trans q q2
            rw [h2] at z
            cases z
          | false =>
            have e := lexLt_total q2 h1
            subst e
            rw [h2] at q
            cases q
    rcases e1 with e1 | e1
    · exact e1
    · subst e1
      exact h
theorem insK_perm (k : List Int) : ∀ l : List (List Int), (insK k l).Perm (k :: l)
  | [] => .refl _
  | x :: xs => by
    unfold insK
    split
    · exact ((insK_perm k xs).cons x).trans (.swap k x xs)
    · exact .refl _
theorem isortK_perm : ∀ l : List (List Int), (isortK l).Perm l
  | [] => .refl _
  | k :: ks => (insK_perm k _).trans ((isortK_perm ks).cons k)
theorem insK_up (k : List Int) : ∀ l : List (List Int), l.Pairwise (fun a b => leK a b = true) → (insK k l).Pairwise (fun a b => leK a b = true)
  | [], _ => List.pairwise_singleton _ _
  | x :: xs, h => by
    obtain ⟨h1, h2⟩ := List.pairwise_cons.mp h
    unfold insK
    split
    · rename_i hl
      refine List.pairwise_cons.mpr ⟨fun y hy => ?_, insK_up k xs h2⟩
      rcases List.mem_cons.mp ((insK_perm k xs).mem_iff.mp hy) with e | e
      · subst e
        unfold leK
        rw [Bool.not_eq_true']
        cases q : HT.lexLt y x with
        | false => rfl
        | true =>
          have z := lexLt_trans hl q
          rw [lexLt_irrefl] at z
          cases z
      · exact h1 y e
    · rename_i hl
      have kx : leK k x = true := by
        unfold leK
        rw [hl]
        rfl
      refine List.pairwise_cons.mpr ⟨fun y hy => ?_, h⟩
      rcases List.mem_cons.mp hy with e | e
      · subst e
        exact kx
      · exact leK_trans _ _ _ kx (h1 y e)
theorem isortK_up : ∀ l : List (List Int), (isortK l).Pairwise (fun a b => leK a b = true)
  | [] => .nil
  | k :: ks => insK_up k _ (isortK_up ks)
theorem up_one : ∀ m n : List (List Int), m.Pairwise (fun a b => leK a b = true) → n.Pairwise (fun a b => leK a b = true) → m.Perm n → m = n
  | [], n, _, _, p => p.nil_eq
  | a :: m, [], _, _, p => absurd p.length_eq (by simp)
  | a :: m, b :: n, h1, h2, p => by
    obtain ⟨h3, h4⟩ := List.pairwise_cons.mp h1
    obtain ⟨h5, h6⟩ := List.pairwise_cons.mp h2
    have e : a = b := by
      rcases List.mem_cons.mp (p.mem_iff.mp List.mem_cons_self) with e | e
      · exact e
      · rcases List.mem_cons.mp (p.mem_iff.mpr List.mem_cons_self) with e2 | e2
        · exact e2.symm
        · exact leK_anti (h3 b e2) (h5 a e)
    subst e
    rw [up_one m n h4 h6 ((List.perm_cons a).mp p)]
theorem dataLe_leK : PySem.W.dataLe false encK = leK := by
  rw [PySem.W.dataLe_eq]
  funext a b
  show (!PySem.W.dataLt (encK b) (encK a)) = leK a b
  rw [dataLt_encK]
  rfl
theorem merge_isort (l m : List (List Int)) (p : l.Perm m) : l.mergeSort (PySem.W.dataLe false encK) = isortK m := by
  rw [dataLe_leK]
  refine up_one _ _ (PySem.W.sort_pairwise ⟨leK_trans, leK_total⟩ l) (isortK_up m) ?_
  exact ((List.mergeSort_perm l leK).trans p).trans (isortK_perm m).symm
theorem alike_encK (a b : List Int) : PySem.W.alike (encK a) (encK b) = true := by
  unfold encK
  rw [PySem.W.alike]
  exact PySem.W.alike_ints a b
theorem depth_encK (a : List Int) : (encK a).depth ≤ 1 := by
  unfold encK
  rw [PyData.depth, PySem.W.depth_ints]
  exact Nat.le_refl _
theorem allAlikeK (ks : List (List Int)) : PySem.W.AllAlike (ks.map encK) := .of fun a b => alike_encK a b
theorem sortableK {ks : List (List Int)} (h : neK ks = true) : PySem.W.Sortable (ks.map encK) := .inl fun d hd => by
  obtain ⟨k, hk, rfl⟩ := List.mem_map.mp hd
  have ne : ∀ l : List (List Int), neK l = true → ∀ k ∈ l, ∃ x r, k = x :: r := fun l => by
    induction l with
    | nil => intro _ k hk; cases hk
    | cons a l ih =>
      intro h k hk
      cases a with
      | nil => cases h
      | cons x r =>
        rcases List.mem_cons.mp hk with e | e
        · exact ⟨x, r, e⟩
        · exact ih h k e
  obtain ⟨x, r, rfl⟩ := ne ks h k hk
  exact ⟨.int x, r.map PyData.int, rfl⟩
theorem reads_ints {h : Heap} : ∀ {us : List Value} {ns : List Int}, IntsAre us ns → ReadsAll h us (ns.map PyData.int) []
  | _, _, .nil => .nil
  | _, _, .cons n t r => .cons (as := []) (.int n t) (reads_ints r)
theorem reads_tup {h : Heap} {a : Addr} {its : Array Value} {ns : List Int} (ht : IsTup h a its) (hi : IntsAre its.toList ns) : Reads h (.ref a) (encK ns) [] := by
  obtain ⟨o, ho, hc, n, hd⟩ := ht
  exact .tuple ho hc hd (reads_ints hi)
/-- a tuple of these ints -/
def KeyV (K : PySem.W.Frag) (H : Hp) (v : Value) (k : List Int) : Prop := ∃ t, v = .ref t ∧ SqT K H t (k.map V.int)
section
variable {X : Cx} {pins : List (Addr × Obj)} {σ : L2.St} {H : Hp} {s : Shared}
theorem keyV_reads (I : Inv X pins σ H s) {v : Value} {k : List Int} (h : KeyV X.K H v k) : Reads s.heap v (encK k) [] := by
  obtain ⟨t, rfl, ht⟩ := h
  obtain ⟨its, r, p, _⟩ := I.tuple ht
  exact reads_tup p (intsAre_of r)
/-- > of tuples -/
theorem op_gtK (hu : X.A.units + 64 < cLine) : OpR X (compareOp .Gt) (fun x y H Q => ∃ a b ns ms, x = .ref a ∧ y = .ref b ∧ SqT X.K H a (ns.map V.int) ∧ SqT X.K H b (ms.map V.int) ∧ Q (.bl (HT.lexLt ms ns)) H) := by
  intro pins s σ H x y v u Q I rx ry h
  obtain ⟨a, b, ns, ms, rfl, rfl, h1, h2, q⟩ := h
  cases rx
  cases ry
  refine PySem.W.gt_data (keyV_reads I ⟨a, rfl, h1⟩) (keyV_reads I ⟨b, rfl, h2⟩) (alike_encK ns ms) (fun z => nomatch z) ?_ ?_
  · have z := depth_encK ns
    have z2 : min (encK ns).depth (encK ms).depth ≤ (encK ns).depth := Nat.min_le_left _ _
    omega
  · rw [dataLt_encK]
    exact ⟨.bl _, H, I, rfl, q⟩
end
section
variable {X : Cx}
def rGtX (K : PySem.W.Frag) : R2 := fun x y H Q => rI0 (fun i j => .bl (decide (j < i))) x y H Q ∨ ∃ a b ns ms, x = .ref a ∧ y = .ref b ∧ SqT K H a (ns.map V.int) ∧ SqT K H b (ms.map V.int) ∧ Q (.bl (HT.lexLt ms ns)) H
theorem op_gtX (hu : X.A.units + 64 < cLine) : OpR X (compareOp .Gt) (rGtX X.K) := by
  intro pins s σ H x y v u Q I rx ry h
  rcases h with h | h
  · exact op_gt pins s σ H x y v u Q I rx ry h
  · exact op_gtK hu pins s σ H x y v u Q I rx ry h
theorem os_gt (hu : X.A.units + 64 < cLine) : OpS X (compareOp .Gt) fGt := ⟨_, op_gtX hu, fun x y z H v u Q e hx hy q => by
  unfold fGt at e
  split at e
  · cases e
    exact .inl ⟨_, _, rep_int hx, rep_int hy, q _ _ (Ex.refl H) ⟨bl_rep, trivial⟩⟩
  · split at e
    · rename_i is his
      split at e
      · rename_i js hjs
        cases e
        obtain ⟨a, xs, rfl, h1, h2⟩ := rep_tup hx
        obtain ⟨b, ys, rfl, h3, h4⟩ := rep_tup hy
        have e1 := repA_ints h2 his
        have e2 := repA_ints h4 hjs
        subst e1 e2
        exact .inr ⟨a, b, is, js, rfl, rfl, h1, h3, q _ _ (Ex.refl H) ⟨bl_rep, trivial⟩⟩
      · cases e
    · cases e
  · cases e⟩
end

/-! ### sorted, set -/
theorem keysD_each {K : PySem.W.Frag} {H : Hp} : ∀ {ds : List D} {xs : List V} {ks : List (List Int)}, RepA K H ds xs → keysD ds = some ks → Paired (fun (x : V) (k : List Int) => TupI K H x k) xs ks
  | [], [], ks, _, e => by
    simp only [keysD] at e
    cases e
    exact .nil
  | [], _ :: _, _, h, _ => by simp only [RepA] at h
  | _ :: _, [], _, h, _ => by simp only [RepA] at h
  | d :: ds, x :: xs, ks, h, e => by
    simp only [RepA] at h
    simp only [keysD] at e
    cases q : keyD d with
    | none =>
      rw [q] at e
      cases e
    | some k =>
      rw [q] at e
      cases q2 : keysD ds with
      | none =>
        rw [q2] at e
        cases e
      | some ks' =>
        rw [q2] at e
        cases e
        refine .cons ?_ (keysD_each h.2 q2)
        cases d with
        | tup es =>
          have r : Rep K H (.tup es) x := h.1
          simp only [Rep] at r
          obtain ⟨a, ys, ea, h1, h2⟩ := r
          have ey := repA_ints h2 q
          subst ey
          exact ⟨a, ea, h1⟩
        | _ => cases q
theorem keyK_rep {K : PySem.W.Frag} {H : Hp} {x : V} {k : List Int} (h : TupI K H x k) : Rep K H (tupK k) x := by
  obtain ⟨t, rfl, ht⟩ := h
  unfold tupK
  simp only [Rep]
  refine ⟨t, _, rfl, ht, ?_⟩
  have e : intsD (k.map D.int) = some k := by
    clear ht
    induction k with
    | nil => rfl
    | cons i k ih =>
      rw [List.map_cons]
      simp only [intsD, ih]
  exact ints_repA e
theorem each_repA {K : PySem.W.Frag} {H : Hp} : ∀ {xs : List V} {ks : List (List Int)}, Paired (fun (x : V) (k : List Int) => TupI K H x k) xs ks → RepA K H (ks.map tupK) xs
  | _, _, .nil => by simp only [List.map_nil, RepA]
  | _, _, .cons h t => by
    simp only [List.map_cons, RepA]
    exact ⟨keyK_rep h, each_repA t⟩
theorem tupI_ex {K : PySem.W.Frag} {H H' : Hp} (e : Sta H H') {x : V} {k : List Int} (h : TupI K H x k) : TupI K H' x k := by
  obtain ⟨t, ex, ht⟩ := h
  exact ⟨t, ex, e.t ht⟩
theorem paired_mono {α β : Type} {F G : α → β → Prop} (h : ∀ a b, F a b → G a b) {l₁ : List α} {l₂ : List β} (p : Paired F l₁ l₂) : Paired G l₁ l₂ := Paired.mapP p h
/-- the values of a paired list -/
theorem each_vals {K : PySem.W.Frag} {H : Hp} : ∀ {xs : List V} {us : List Value} {ks : List (List Int)}, Paired (fun (x : V) (k : List Int) => TupI K H x k) xs ks → Vals xs us → PySem.W.EachIs (KeyV K H) us ks
  | _, _, _, .nil, .nil => .nil
  | _, _, _, .cons h t, .cons r rs => by
    obtain ⟨a, rfl, ha⟩ := h
    cases r
    exact .cons ⟨a, rfl, ha⟩ (each_vals t rs)
theorem vals_each {K : PySem.W.Frag} {H : Hp} : ∀ {us : List Value} {ks : List (List Int)}, PySem.W.EachIs (KeyV K H) us ks → ∃ ys : List V, Vals ys us ∧ Paired (fun (x : V) (k : List Int) => TupI K H x k) ys ks
  | _, _, .nil => ⟨[], .nil, .nil⟩
  | _, _, .cons h t => by
    obtain ⟨a, rfl, ha⟩ := h
    obtain ⟨ys, h1, h2⟩ := vals_each t
    exact ⟨.ref a :: ys, .cons rfl h1, .cons ⟨a, rfl, ha⟩ h2⟩
theorem each_len {α β : Type} {F : α → β → Prop} : ∀ {l₁ : List α} {l₂ : List β}, Paired F l₁ l₂ → l₁.length = l₂.length := Paired.length
def rSortL (K : PySem.W.Frag) : List V → Hp → VK → Prop := fun vs H Q => ∃ (a : Addr) (xs : List V) (ks : List (List Int)), vs = [V.ref a] ∧ SqL K H a xs ∧ Paired (fun (x : V) (k : List Int) => TupI K H x k) xs ks ∧ neK ks = true ∧
  ∀ ys p, Paired (fun (x : V) (k : List Int) => TupI K H x k) ys (isortK ks) → H p = none → Q (.ref p) (upd H p (.lst ys))
theorem cr_sortL {X : Cx} (hu : X.A.units + 64 < cLine) : CallR X (.builtin "sorted") (rSortL X.K) := by
  intro pins s σ H vs us Q I r h
  obtain ⟨a, xs, ks, rfl, hs, hp, hn, q⟩ := h
  obtain ⟨its, rv, hl, hz⟩ := I.list hs
  rw [Vals.ref1 r]
  have e1 := each_vals hp rv
  have kl : ks.length = its.length := by rw [← each_len hp, rv.length]
  refine PySem.W.sorted_data (enc := encK) hl.isList e1 (e1.mono fun v k hk => ⟨[], keyV_reads I hk⟩) (allAlikeK ks) (sortableK hn) (by rw [kl, ← rv.length]; exact hz) (fun k _ => by have z := depth_encK k; omega) fun out ho hr => ?_
  rw [merge_isort ks ks (.refl _)] at hr
  obtain ⟨ys, h1, h2⟩ := vals_each hr
  obtain ⟨ep, he'⟩ := PyProof.Rows.sortedAll_at s.heap its out.toArray
  have hlen : ys.length ≤ sizeLine := by
    rw [h1.length, ho, kl, ← rv.length]
    exact hz
  exact ⟨.ref (s.heap.objs.size + 1), upd H (s.heap.objs.size + 1) (.lst ys), I.laid (t' := s.toks) (fun _ _ => PyProof.Rows.sortedAll_old) (Nat.le_succ _) ⟨hlen, out, ep, h1, he'⟩, rfl, q ys _ h2 (I.hok.fresh (Nat.le_succ _))⟩

/-! ### sorted of a set, of a dict: what is gathered is sorted -/
section
variable {prog : Program} {w : World} {A : Around} {E : Value → Shared → Prop} {s : Shared}
/-- sorted(x), where the gathering of x hands over rows of ints -/
theorem sorted_of_collect {x : Value} {Q : Value → Shared → Prop} {F : Value → List Int → Prop} (hu : A.units + 64 < cLine)
    (h : wpAny (model prog w) A.in1 (collect x) (fun vs s1 => ∃ ks : List (List Int), (∀ v k, F v k → ∃ (t : Addr) (its : Array Value), v = .ref t ∧ IsTup s1.heap t its ∧ IntsAre its.toList k) ∧ PySem.W.EachIs F vs ks ∧ neK ks = true ∧ ks.length ≤ 1000 ∧
      ∀ (out : List Value) (c : Nat) (h2 : Heap), out.length = ks.length → PySem.W.EachIs F out (isortK ks) →
        (∀ b o, s1.heap.get? b = some o → h2.get? b = some o) → h2.get? s1.heap.objs.size = some (seqObj "list" out.toArray c) → Q (.ref s1.heap.objs.size) { s1 with heap := h2 }) E s) :
    wpAny (model prog w) A (call (.builtin "sorted") [x]) Q E s := by
  refine Calls.call_function_entry kind_sorted plain_sorted entry_sorted (args_sorted1 _) ?_
  unfold Builtin.«sorted»
  refine wpAny_bind (m := checkCount "sorted" 1 1 _) (wpAny_pure ?_)
  refine wpAny_bind (wpAny_mono h (fun vs s1 hq => ?_) fun _ _ z => z)
  obtain ⟨ks, row, e1, hn, hk, q⟩ := hq
  have hl := e1.length
  refine wpAny_bind (wpAny_newList ?_ (by rw [sizeLine_eq]; omega))
  have hoL : (s1.heap.push (seqObj "list" vs.toArray 0)).get? s1.heap.objs.size = some (seqObj "list" vs.toArray 0) := Heap.get?_push_size _ rfl
  have kp : ∀ b o, s1.heap.get? b = some o → (s1.heap.push (seqObj "list" vs.toArray 0)).get? b = some o := fun b o e => Heap.get?_push_of_some _ e
  have er : PySem.W.EachIs (fun v k => ∃ as, Reads (s1.heap.push (seqObj "list" vs.toArray 0)) v (encK k) as ∧ s1.heap.objs.size ∉ as) vs ks := e1.mono fun v k hf => by
    obtain ⟨t, its, ev, ⟨o, ho, hc, n, hd⟩, hi⟩ := row v k hf
    subst ev
    exact ⟨[], reads_tup ⟨o, kp _ _ ho, hc, n, hd⟩ hi, by simp⟩
  refine wpAny_bind (wpAny_holding (PySem.W.list_sort_data (enc := encK) (s := { s1 with heap := s1.heap.push (seqObj "list" vs.toArray 0) }) hoL e1 er (allAlikeK ks) (sortableK hn) (by rw [sizeLine_eq]; omega)
    (fun k _ => by have z := depth_encK k; show A.units + 1 + 1 + (encK k).depth < cLine; omega) fun out ho hr => ?_))
  rw [merge_isort ks ks (.refl _)] at hr
  obtain ⟨c, hc⟩ := PyProof.Rows.sortedHeap_at (vs := vs) (out := out.toArray) hoL
  refine wpAny_pure ⟨_, rfl, q out c _ ho hr (fun b o e => ?_) hc⟩
  have hlt := Heap.lt_size e
  show (sortedHeap (s1.heap.push (seqObj "list" vs.toArray 0)) s1.heap.objs.size vs out.toArray).get? b = some o
  rw [PyProof.Rows.sortedHeap_old (Nat.ne_of_lt hlt) (by rw [size_push']; exact Nat.lt_succ_of_lt hlt)]
  exact kp b o e
end

theorem neK_all : ∀ {ks : List (List Int)}, neK ks = true ↔ ∀ k ∈ ks, k ≠ []
  | [] => by simp [neK]
  | [] :: ks => by simp [neK]
  | (x :: r) :: ks => by
    rw [neK, neK_all (ks := ks)]
    simp
theorem neK_perm {l m : List (List Int)} (p : l.Perm m) (h : neK m = true) : neK l = true := neK_all.mpr fun k hk => neK_all.mp h k (p.mem_iff.mp hk)
theorem isort_perm {l m : List (List Int)} (p : l.Perm m) : isortK l = isortK m := up_one _ _ (isortK_up l) (isortK_up m) (((isortK_perm l).trans p).trans (isortK_perm m).symm)
theorem perm_map_inv {α β : Type} (f : α → β) : ∀ (m : List α) (l : List β), l.Perm (m.map f) → ∃ m' : List α, m'.Perm m ∧ l = m'.map f
  | [], l, p => ⟨[], .refl _, List.Perm.eq_nil p⟩
  | a :: m, l, p => by
    have hm : f a ∈ l := p.mem_iff.mpr List.mem_cons_self
    obtain ⟨s, t, rfl⟩ := List.append_of_mem hm
    have p2 : (s ++ t).Perm (m.map f) := (List.perm_cons (f a)).mp ((List.perm_middle.symm).trans p)
    obtain ⟨m', q, e⟩ := perm_map_inv f m _ p2
    obtain ⟨m1, m2, e1, e2, e3⟩ := List.append_eq_map_iff.mp e
    refine ⟨m1 ++ a :: m2, ?_, ?_⟩
    · refine List.perm_middle.trans (List.Perm.cons a ?_)
      rw [← e1]
      exact q
    · rw [List.map_append, List.map_cons, e2, e3]
/-- what stands behind sorted(..) -/
def SortQ (K : PySem.W.Frag) (H : Hp) (ks : List (List Int)) (Q : VK) : Prop := ∀ ys p, Paired (fun (x : V) (k : List Int) => TupI K H x k) ys (isortK ks) → H p = none → Q (.ref p) (upd H p (.lst ys))
def rSortS (K : PySem.W.Frag) (P : Program) (w : World) : List V → Hp → VK → Prop := fun vs H Q => ∃ (a : Addr) (L : List (Addr × List Int)) (ks : List (List Int)), vs = [V.ref a] ∧ H a = some (SetTO P w a L) ∧ (∀ p ∈ L, SqT K H p.1 (p.2.map V.int)) ∧ (L.map (·.2)).Perm ks ∧ neK ks = true ∧ SortQ K H ks Q
section
variable {X : Cx} {pins : List (Addr × Obj)} {σ : L2.St} {H : Hp} {s : Shared}
theorem row_of (I : Inv X pins σ H s) {h' : Heap} (kp : ∀ b o, s.heap.get? b = some o → h'.get? b = some o) (v : Value) (k : List Int) (h : KeyV X.K H v k) : ∃ (t : Addr) (its : Array Value), v = .ref t ∧ IsTup h' t its ∧ IntsAre its.toList k := by
  obtain ⟨t, e, ht⟩ := h
  obtain ⟨its, r, ⟨o, ho, hc, n, hd⟩, _⟩ := I.tuple ht
  exact ⟨t, its.toArray, e, ⟨o, kp _ _ ho, hc, n, hd⟩, intsAre_of r⟩
theorem rows_each {K : PySem.W.Frag} : ∀ {L : List (Addr × List Int)}, (∀ p ∈ L, SqT K H p.1 (p.2.map V.int)) → PySem.W.EachIs (KeyV K H) (L.map fun p => Value.ref p.1) (L.map (·.2))
  | [], _ => .nil
  | p :: L, h => .cons ⟨p.1, rfl, h p List.mem_cons_self⟩ (rows_each fun q hq => h q (List.mem_cons_of_mem _ hq))
/-- the end of sorted(..): the new list -/
theorem sorted_end (I : Inv X pins σ H s) {s1 : Shared} {h2 : Heap} {p : Addr} {out : List Value} {c : Nat} {ks : List (List Int)} {Q : VK} (hl : out.length ≤ 1000) (he : PySem.W.EachIs (KeyV X.K H) out (isortK ks)) (kp : ∀ b o, s.heap.get? b = some o → h2.get? b = some o)
    (hp : s.heap.objs.size ≤ p) (hg : h2.get? p = some (seqObj "list" out.toArray c)) (g : s1.gens = s.gens) (o : s1.os = s.os) (q : SortQ X.K H ks Q) : ∃ v H', Inv X pins σ H' { s1 with heap := h2 } ∧ RelV v (.ref p) ∧ Q v H' := by
  obtain ⟨ys, h3, h4⟩ := vals_each he
  have hn : H p = none := I.hok.fresh hp
  have hlen : ys.length ≤ sizeLine := by rw [h3.length, sizeLine_eq]; omega
  have J : Inv X pins σ (upd H p (.lst ys)) { s with heap := h2, gens := s1.gens, drawn := s1.drawn, toks := s1.toks } :=
    I.call (ch := []) (Un.laid kp hp hn) (I.hok.laid kp hp ⟨hlen, out, c, h3, hg⟩) (by rw [g]; exact I.bare) (fun _ z => nomatch z)
  have e : ({ s1 with heap := h2 } : Shared) = { s with heap := h2, gens := s1.gens, drawn := s1.drawn, toks := s1.toks } := by
    cases s1
    cases s
    cases o
    rfl
  rw [e]
  exact ⟨.ref p, _, J, rfl, q ys p h4 hn⟩
end
section
variable {X : Cx}
theorem cr_sortS (hc : X.calm = true) (hu : X.A.units + 64 < cLine) : CallR X (.builtin "sorted") (rSortS X.K X.prog X.w) := by
  intro pins s σ H vs us Q I r h
  obtain ⟨a, L, ks, rfl, ha, hL, pm, hn, q⟩ := h
  obtain ⟨es, ep, t, R⟩ := (show SetT0 X.prog X.w s.heap a L from (I.hok a _ ha).1).full fun p hp => I.isT (hL p hp)
  obtain ⟨o, ho, hex, hd⟩ := R.ob
  have hsz := R.size
  have hfew := R.few
  rw [Vals.ref1 r]
  refine sorted_of_collect (F := KeyV X.K H) hu (collect_set (A := X.A.in1) (I.ok.hd hc) ⟨o, ho, hex.1, hd⟩ R.fits (by unfold scanBound; omega) R.tab.ris R.led fun s1 vs k1 hz g1 o1 pv => ?_)
  have hes : es.toList.map (·.2) = L.map fun q => Value.ref q.1 := by
    rw [R.rows]
    unfold rowsOf
    rw [List.map_map]
    rfl
  rw [hes] at pv
  obtain ⟨L', p1, e1⟩ := perm_map_inv (fun q : Addr × List Int => Value.ref q.1) L vs pv
  have pk : (L'.map (·.2)).Perm ks := (p1.map (·.2)).trans pm
  have hl' : L'.length < 64 := by rw [p1.length_eq]; exact hfew
  refine ⟨L'.map (·.2), row_of I k1, by rw [e1]; exact rows_each fun p hp => hL p (p1.mem_iff.mp hp), neK_perm pk hn, by rw [List.length_map]; omega, fun out c h2 ho he kp hg => ?_⟩
  rw [isort_perm pk] at he
  exact sorted_end I (by rw [ho, List.length_map]; omega) he (fun b u z => kp b u (k1 b u z)) hz hg g1 o1 q
end
end DL
set_option Elab.async false
set_option linter.all false
set_option maxRecDepth 100000
set_option maxHeartbeats 4000000
/-! DLt: sorted and set as built-ins of the mirrors. -/
namespace DL
open PySem PySem.Spec PyProof.Rows L2
def rSortD (K : PySem.W.Frag) (P : Program) (w : World) : List V → Hp → VK → Prop := fun vs H Q => ∃ (a : Addr) (L : List (Addr × List Int)), vs = [V.ref a] ∧ H a = some (DctO P w a L) ∧ (∀ p ∈ L, SqT K H p.1 (p.2.map V.int)) ∧ neK (L.map (·.2)) = true ∧ SortQ K H (L.map (·.2)) Q
theorem entry_key {P : Program} {w : World} {L : List (Addr × List Int)} {es : Array DictEntry} (he : es.toList = (rowsD L).map (entryOfKey (tupleKind (intKind P w)))) {i : Nat} (hi : i < es.size) : (L.map fun p => Value.ref p.1)[i]? = some es[i].key := by
  have h := entry_at (knd := tupleKind (intKind P w)) he i
  rw [Array.getElem?_eq_getElem hi] at h
  unfold rowsD at h
  rw [List.getElem?_map] at h
  rw [List.getElem?_map]
  cases q : L[i]? with
  | none =>
    rw [q] at h
    cases h
  | some p =>
    rw [q] at h
    have h2 := Option.some.inj h
    rw [h2]
    rfl
section
variable {X : Cx}
theorem cr_sortD (hc : X.calm = true) (hu : X.A.units + 64 < cLine) : CallR X (.builtin "sorted") (rSortD X.K X.prog X.w) := by
  intro pins s σ H vs us Q I r h
  obtain ⟨a, L, rfl, ha, hL, hn, q⟩ := h
  have D : DctA X.prog X.w s.heap a L := (I.hok a _ ha).1
  obtain ⟨o, es, ep, ho, hex, hd, he⟩ := D.ex
  have hsz : es.size = L.length := by
    rw [size_of_entries (knd := tupleKind (intKind X.prog X.w)) he]
    unfold rowsD
    rw [List.length_map]
  have hf := D.few
  rw [Vals.ref1 r]
  refine sorted_of_collect (F := KeyV X.K H) hu (PySem.W.kdu_collect (A := X.A.in1) (KdlSrc.rawDict D.lo) (I.ok.hd hc) ⟨o, ho, hex, hd⟩ (by rw [hsz, sizeLine_eq]; omega) fun h' tk acc kp it => ?_)
  have ea : acc.toList = L.map fun p => Value.ref p.1 := items_out (Pv := fun i v => ∃ hi : i < es.size, v = es[i].key) (by rw [List.length_map, ← hsz]; exact it) fun j v ⟨hj, ev⟩ => by rw [ev]; exact entry_key he hj
  have I1 : Inv X pins σ H { s with heap := h', toks := tk } := I.kept kp
  refine ⟨L.map (·.2), row_of I kp, by rw [ea]; exact rows_each hL, hn, by rw [List.length_map]; omega, fun out c h2 ho2 he2 kp2 hg => ?_⟩
  rw [List.length_map] at ho2
  exact sorted_end (s1 := { s with heap := h', toks := tk }) I1 (by rw [ho2]; omega) he2 kp2 (Nat.le_refl _) hg rfl rfl q
end

/-! ### set(xs) -/
theorem memK_iff {k : List Int} : ∀ {l : List (List Int)}, memK k l = true ↔ k ∈ l
  | [] => by simp [memK]
  | x :: l => by
    rw [memK]
    by_cases h : x = k
    · rw [decide_eq_true h]
      simp [h]
    · rw [decide_eq_false h]
      dsimp only
      rw [memK_iff (l := l), List.mem_cons]
      exact ⟨.inr, fun z => z.elim (fun e => absurd e.symm h) id⟩
theorem onceK_mem {k : List Int} : ∀ {ks done : List (List Int)}, k ∈ onceK done ks ↔ k ∈ done ∨ k ∈ ks
  | [], done => by simp [onceK]
  | x :: ks, done => by
    rw [onceK]
    split
    · rename_i hm
      rw [onceK_mem (ks := ks), List.mem_cons]
      have hx := memK_iff.mp hm
      constructor
      · rintro (z | z)
        · exact .inl z
        · exact .inr (.inr z)
      · rintro (z | z | z)
        · exact .inl z
        · exact .inl (by rw [z]; exact hx)
        · exact .inr z
    · rw [onceK_mem (ks := ks), List.mem_append, List.mem_singleton, List.mem_cons, or_assoc]
theorem onceK_nodup : ∀ {ks done : List (List Int)}, done.Nodup → (onceK done ks).Nodup
  | [], done, h => h
  | x :: ks, done, h => by
    rw [onceK]
    split
    · exact onceK_nodup h
    · rename_i hm
      refine onceK_nodup (List.nodup_append.mpr ⟨h, by simp, fun a ha b hb e => ?_⟩)
      rw [List.mem_singleton] at hb
      subst hb
      subst e
      rw [memK_iff.mpr ha] at hm
      cases hm
theorem pairs_of {K : PySem.W.Frag} {H : Hp} : ∀ {xs : List V} {ks : List (List Int)}, Paired (fun (x : V) (k : List Int) => TupI K H x k) xs ks → ∃ L : List (Addr × List Int), xs = L.map (fun p => V.ref p.1) ∧ L.map (·.2) = ks ∧ ∀ p ∈ L, SqT K H p.1 (p.2.map V.int)
  | _, _, .nil => ⟨[], rfl, rfl, fun p hp => by cases hp⟩
  | _, _, .cons h t => by
    obtain ⟨a, e, ha⟩ := h
    obtain ⟨L, e1, e2, h2⟩ := pairs_of t
    refine ⟨(a, _) :: L, by rw [List.map_cons, e, e1], by rw [List.map_cons, e2], fun p hp => ?_⟩
    rcases List.mem_cons.mp hp with z | z
    · rw [z]
      exact ha
    · exact h2 p z
def rSetX (K : PySem.W.Frag) (P : Program) (w : World) : List V → Hp → VK → Prop := fun vs H Q => ∃ (l : Addr) (ks : List (Addr × List Int)), vs = [V.ref l] ∧ SqL K H l (ks.map fun p => V.ref p.1) ∧ (∀ p ∈ ks, SqT K H p.1 (p.2.map V.int)) ∧ ks.length ≤ 60 ∧
  ∀ a L, H a = none → (∀ p ∈ L, SqT K H p.1 (p.2.map V.int)) → (L.map (·.2)).Perm (onceK [] (ks.map (·.2))) → Q (.ref a) (upd H a (SetTO P w a L))
section
variable {X : Cx}
theorem cr_set (hc : X.calm = true) (hu : X.A.units + 64 < cLine) : CallR X (.type "set") (rSetX X.K X.prog X.w) := by
  intro pins s σ H vs us Q I r h
  obtain ⟨l, ks, rfl, hl, hk, hf, q⟩ := h
  rw [Vals.ref1 r]
  obtain ⟨its, rv, pl, hz⟩ := I.list hl
  have hn : H s.heap.objs.size = none := I.hok.fresh (Nat.le_refl _)
  refine call_set_tups (P := X.prog) (w := X.w) ks (I.ok.hd hc) pl.isList (by simpa using refs_of_vals rv) (fun p hp => I.isT (hk p hp)) (by omega) (by omega) fun h' tk L es ep t R g kp => ?_
  refine ⟨.ref s.heap.objs.size, upd H s.heap.objs.size (SetTO X.prog X.w s.heap.objs.size L), I.laid (t' := tk) kp (Nat.le_refl _) (setTO_new R.t0), rfl, q _ L hn (fun p hp => hk p (List.mem_of_mem_take (g.sub p hp))) ?_⟩
  refine (List.perm_ext_iff_of_nodup R.nd (onceK_nodup List.nodup_nil)).mpr fun k => ?_
  rw [onceK_mem]
  constructor
  · intro hk'
    obtain ⟨p, hp, e⟩ := List.mem_map.mp hk'
    exact .inr (List.mem_map.mpr ⟨p, List.mem_of_mem_take (g.sub p hp), e⟩)
  · rintro (z | z)
    · cases z
    · obtain ⟨p, hp, e⟩ := List.mem_map.mp z
      rw [← e]
      exact g.all p (by rw [List.take_length]; exact hp)
theorem keysD_map : ∀ ks : List (List Int), keysD (ks.map tupK) = some ks
  | [] => rfl
  | k :: ks => by
    rw [List.map_cons]
    unfold tupK
    simp only [keysD, keyD]
    have e : intsD (k.map D.int) = some k := by
      induction k with
      | nil => rfl
      | cons i k ih =>
        rw [List.map_cons]
        simp only [intsD, ih]
    rw [e]
    have ih := keysD_map ks
    unfold tupK at ih
    simp only [ih]
theorem list_pairs {K : PySem.W.Frag} {P : Program} {w : World} {H : Hp} {ds : List D} {v : V} {ks : List (List Int)} (h : RepW P w K H (.lst ds) v) (e : keysD ds = some ks) : ∃ (a : Addr) (xs : List V), v = .ref a ∧ SqL K H a xs ∧ Paired (fun (x : V) (k : List Int) => TupI K H x k) xs ks := by
  obtain ⟨a, xs, ev, h1, h2⟩ := h
  exact ⟨a, xs, ev, h1, keysD_each h2 e⟩
theorem own_lst {K : PySem.W.Frag} {P : Program} {w : World} {H : Hp} {ds : List D} {v : V} (h : RepW P w K H (.own ds) v) : RepW P w K H (.lst ds) v := argW_rep (x := .own ds) h
theorem cs_set (hc : X.calm = true) (hu : X.A.units + 64 < cLine) : CalS X (.type "set") bSet := ⟨_, cr_set hc hu, fun ws y H vs Q e r q => by
  have key : ∀ (ds : List D) (v : V), RepW X.prog X.w X.K H (.lst ds) v → setD ds = some y → vs = [v] → rSetX X.K X.prog X.w vs H Q := fun ds v hr e ev => by
    subst ev
    unfold setD at e
    split at e
    · rename_i ks hk
      split at e
      · rename_i hb
        cases e
        rw [Bool.and_eq_true] at hb
        obtain ⟨a, xs, rfl, h1, h2⟩ := list_pairs hr hk
        obtain ⟨L, e1, e2, h3⟩ := pairs_of h2
        subst e1
        have hl : L.length ≤ 60 := by
          have z := Nat.le_of_ble_eq_true hb.2
          rw [← e2, List.length_map] at z
          exact z
        refine ⟨a, L, rfl, h1, h3, hl, fun p M hp hM pm => q _ _ (Ex.new hp) ⟨⟨p, M, _, rfl, upd_same, fun x hx => (Ex.new hp).sta.t (hM x hx), keysD_map _, ?_⟩, trivial⟩⟩
        rw [← e2]
        exact pm
      · cases e
    · cases e
  unfold bSet at e
  split at e
  · obtain ⟨v, ev, rv⟩ := ws1 r
    exact key _ v (own_lst rv) e ev
  · obtain ⟨v, ev, rv⟩ := ws1 r
    exact key _ v rv e ev
  · cases e⟩

/-! ### sorted -/
def rSort (K : PySem.W.Frag) (P : Program) (w : World) : List V → Hp → VK → Prop := fun vs H Q => rSortL K vs H Q ∨ rSortS K P w vs H Q ∨ rSortD K P w vs H Q
theorem cr_sort (hc : X.calm = true) (hu : X.A.units + 64 < cLine) : CallR X (.builtin "sorted") (rSort X.K X.prog X.w) := by
  intro pins s σ H vs us Q I r h
  rcases h with h | h | h
  · exact cr_sortL hu pins s σ H vs us Q I r h
  · exact cr_sortS hc hu pins s σ H vs us Q I r h
  · exact cr_sortD hc hu pins s σ H vs us Q I r h
theorem sortD_some {ds : List D} {y : W} (h : sortD ds = some y) : ∃ ks, keysD ds = some ks ∧ neK ks = true ∧ ks.length ≤ 1000 ∧ y = .own ((isortK ks).map tupK) := by
  unfold sortD at h
  split at h
  · rename_i ks hk
    split at h
    · rename_i hb
      cases h
      rw [Bool.and_eq_true] at hb
      exact ⟨ks, hk, hb.1, Nat.le_of_ble_eq_true hb.2, rfl⟩
    · cases h
  · cases h
theorem cs_sorted (hc : X.calm = true) (hu : X.A.units + 64 < cLine) : CalS X (.builtin "sorted") bSorted := ⟨_, cr_sort hc hu, fun ws y H vs Q e r q => by
  have fin : ∀ ks, y = .own ((isortK ks).map tupK) → SortQ X.K H ks Q := fun ks ey zs p hz hp => by
    subst ey
    refine q _ _ (Ex.new hp) ⟨⟨p, zs, rfl, upd_same, RepA.sta (Ex.new hp).sta _ _ (each_repA hz)⟩, fun a z => by cases z; exact hp⟩
  have lst : ∀ (ds : List D) (v : V), RepW X.prog X.w X.K H (.lst ds) v → sortD ds = some y → vs = [v] → rSort X.K X.prog X.w vs H Q := fun ds v hr e ev => by
    subst ev
    obtain ⟨ks, h1, h2, _, h4⟩ := sortD_some e
    obtain ⟨a, xs, rfl, h5, h6⟩ := list_pairs hr h1
    exact .inl ⟨a, xs, ks, rfl, h5, h6, h2, fin ks h4⟩
  unfold bSorted at e
  split at e
  · obtain ⟨v, ev, rv⟩ := ws1 r
    exact lst _ v (own_lst rv) e ev
  · obtain ⟨v, ev, rv⟩ := ws1 r
    exact lst _ v rv e ev
  · obtain ⟨v, ev, rv⟩ := ws1 r
    subst ev
    obtain ⟨ks, h1, h2, _, h4⟩ := sortD_some e
    obtain ⟨a, L, ks', rfl, h5, h6, h7, h8⟩ := rv
    rw [h1] at h7
    cases h7
    exact .inr (.inl ⟨a, L, ks, rfl, h5, h6, h8, h2, fin ks h4⟩)
  · obtain ⟨v, ev, rv⟩ := ws1 r
    subst ev
    obtain ⟨ks, h1, h2, _, h4⟩ := sortD_some e
    obtain ⟨a, L, rfl, h5, h6, h7⟩ := rv
    rw [h1] at h7
    cases h7
    exact .inr (.inr ⟨a, L, rfl, h5, h6, h2, fin _ h4⟩)
  · cases e⟩
end
end DL
set_option Elab.async false
set_option linter.all false
set_option maxRecDepth 100000
set_option maxHeartbeats 4000000
/-! DLu: comprehensions that fill a set, a dict. -/
namespace DL
open PySem PySem.Spec PyProof.Rows L2
/-- storing within a comprehension: names, heap, the object, what comes next -/
abbrev TPut := L2.St → Hp → Addr → (Hp → Prop) → Prop
/-- the wp of storing -/
abbrev TAct := Addr → PySem.Env → (Shared → Prop) → (Value → Shared → Prop) → Shared → Prop
/-- one kind of filling comprehension -/
structure Fill (X : Cx) (node : Expr) (scope : Scope) (tg iter : Expr) (ifs : List Expr) (mk : Sem Value) (o0 : Obj) (N0 : Addr → HO) (act : TAct) (put : TPut) : Prop where
  cls : clausesOf node = [⟨tg, iter, ifs, 0⟩]
  make : ∀ (E : Value → Shared → Prop) (s : Shared) (Q : Value → Shared → Prop), Q (.ref s.heap.objs.size) { s with heap := s.heap.push o0 } → wpAny (model X.prog X.w) X.A mk Q E s
  new : ∀ (H : Hp) (h : Heap), sysModules < h.objs.size → ObjOk X.prog X.w H (h.push o0) h.objs.size (N0 h.objs.size)
  start : ∀ (it acc : Value) (ce : PySem.Env) (R : Result → Shared → Prop) (s : Shared), codeAny (model X.prog X.w) X.A (.compLoop node 0 it acc ce) R s →
    wpAny (model X.prog X.w) X.A (pyIter it) (fun it' s' => codeAny (model X.prog X.w) X.A (.compLoop node 0 it' acc ce) R s') (notedBy (model X.prog X.w) X.A ce fun x s' => R (.error x) s') s → codeAny (model X.prog X.w) X.A (.compStart node 0 it acc ce) R s
  loop : ∀ (it : Value) (D : Addr) (ce : PySem.Env) (R : Result → Shared → Prop) (s : Shared) (J : Nat → Shared → Prop) (n : Nat),
    (∀ n s, J n s → wpAny (model X.prog X.w) X.A (pyNext it) (fun r s1 => match r with
      | none => R (.ok .next) s1
      | some v => wpAny (model X.prog X.w) X.A (letOwnedTupleGo tg it v) (fun _ s2 => wpAny (model X.prog X.w) X.A (assign tg ce v) (fun _ s3 =>
          wpAny (model X.prog X.w) X.A (forIn ifs true fun c r => if r = true then do let ok ← isTrue c ce (eval c ce); pure (ForInStep.yield ok) else pure (ForInStep.yield r)) (fun ok s4 =>
            if ok = true then act D ce (fun s5 => ∃ m, m < n ∧ J m s5) (notedBy (model X.prog X.w) X.A ce fun e s' => R (.error e) s') s4
            else ∃ m, m < n ∧ J m s4) (notedBy (model X.prog X.w) X.A ce fun e s' => R (.error e) s') s3) (notedBy (model X.prog X.w) X.A ce fun e s' => R (.error e) s') s2) (notedBy (model X.prog X.w) X.A ce fun e s' => R (.error e) s') s1) (notedBy (model X.prog X.w) X.A ce fun e s' => R (.error e) s') s) →
    J n s → codeAny (model X.prog X.w) X.A (.compLoop node 0 it (.ref D) ce) R s
  run : ∀ (sb : Shared) (Hb : Hp) (C : Addr) (cl : List (Str × Addr)) (fp : List Addr) (pins : List (Addr × Obj)) (σ : L2.St) (H : Hp) (s : Shared) (D : Addr) (Nx : Hp → Prop) (E : Value → Shared → Prop) (Z : Shared → Prop),
    Inv (Blk X scope sb Hb C cl fp) pins σ H s → put σ H D Nx → (∀ s' H', Inv (Blk X scope sb Hb C cl fp) pins σ H' s' → Nx H' → Z s') → act D (compEnvC scope cl C X.env) Z E s
/-- what it reads as -/
def tFill (N0 : Addr → HO) (wi : TI) (g : TG) (tt : TT) (put : TPut) (vs : List Nat) : TE := fun σ H Q => wi σ H fun J H1 => ∀ D, H1 D = none → ∃ W : Nat → Nat → Hp → Prop, (∃ m, W 0 m (upd H1 D (N0 D))) ∧ ∀ i m H, W i m H →
  (J.stop i H ∧ Q (.ref D) H) ∨ (J.go i H ∧ ∃ Nx : Hp → Prop, (∀ H', Nx H' → ∃ m', m' < m ∧ W (i + 1) m' H') ∧ ∀ x H', J.yld i H x H' → g x (wipe σ vs) H' fun σ2 H2 => wipe σ2 vs = wipe σ vs ∧ tt σ2 H2 fun b H3 =>
    if b = true then put σ2 H3 D Nx else Nx H3)
section
variable {X : Cx} {node tg iter : Expr} {ifs : List Expr} {scope : Scope} {own : List (Str × Nat)} {pos' : Pos} {wi : TI} {g : TG} {tt : TT} {put : TPut} {act : TAct} {mk : Sem Value} {o0 : Obj} {N0 : Addr → HO}
theorem fill_core {pins : List (Addr × Obj)} {s : Shared} {σ : L2.St} {H : Hp} {Q : VK} {use : Option (Value → Sem Unit)} {Qf : Value → Shared → Prop} (F : Fill X node scope tg iter ifs mk o0 N0 act put)
    (calm : X.calm = true) (nd : X.N.Nodup) (I : Inv X pins σ H s) (pit : PI X tg iter wi) (ok : BlkOk X.N X.env.scope scope own) (ptg : ∀ sb Hb C cl fp, PG (Blk X scope sb Hb C cl fp) tg g) (pif : ∀ sb Hb C cl fp, PTs (Blk X scope sb Hb C cl fp) ifs tt)
    (unf : ∀ x, foldedSetIterable iter X.env x = pure x) (hq : tFill N0 wi g tt put (own.map (·.2)) σ H Q)
    (fin : ∀ D C s' m H', Inv X pins σ H' s' → Q (.ref D) H' → s'.heap.Ns C m → FpOk X pins H' C → compPost (model X.prog X.w) X.A X.xe use Qf (.ref D) C (.ok .next) s') :
    wpAny (model X.prog X.w) X.A (comprehension node scope X.env pos' mk false (eval iter X.env) use) Qf X.xe s := by
  have clo := closure_ok (env := X.env) (scope := scope) fun y hy e => (ok.free y hy e).elim (fun z => I.ok.has _ (.inl z)) (fun z => I.ok.has _ (.inr z))
  refine wpAny_comprehension_free (use := use) F.cls unf clo ok.kind (fun y hy e => by rw [ok.uniq y hy, e]) (thn (pit.run pins s σ H _ I hq) fun xv t1 hx => thn hx fun itv t2 h2 => ?_)
  obtain ⟨it, fp, tn, J, Hi, rfl, Ii, T, sti, fpi, q⟩ := h2
  refine F.make _ t2 _ (newEnv_comp ?_)
  obtain ⟨D, eD⟩ : ∃ D, D = t2.heap.objs.size := ⟨_, rfl⟩
  rw [← eD]
  have free : Hi D = none := Ii.hok.fresh (Nat.le_of_eq eD.symm)
  obtain ⟨W, ⟨m0, w0⟩, turn⟩ := q D free
  obtain ⟨t3, e3⟩ : ∃ t3 : Shared, t3 = { t2 with heap := t2.heap.push o0 } := ⟨_, rfl⟩
  have Ij : Inv X pins σ (upd Hi D (N0 D)) t3 := by
    rw [e3, eD]
    exact Ii.laid (t' := t2.toks) (fun b u z => Heap.get?_push_of_some _ z) (Nat.le_refl _) (F.new _ _ Ii.big)
  have hp3 : t3.heap = t2.heap.push o0 := by rw [e3]
  have fpj : ∀ b ∈ fp, FpOk X pins (upd Hi D (N0 D)) b ∧ b < t3.heap.objs.size := fun b hb => by
    obtain ⟨o, eo, _⟩ := T.obj _ _ sti b hb
    have lt := Heap.lt_size eo
    exact ⟨⟨by rw [upd_ne (by rw [eD]; exact Nat.ne_of_lt lt)]; exact (fpi b hb).1, (fpi b hb).2⟩, by rw [hp3, Heap.size_push]; exact Nat.lt_succ_of_lt lt⟩
  have stj : tn 0 t3.heap := T.keep _ _ _ sti fun b _ u z => by rw [hp3]; exact Heap.get?_push_of_some _ z
  obtain ⟨Hj, eHj⟩ : ∃ Hj, Hj = upd Hi D (N0 D) := ⟨_, rfl⟩
  rw [← eHj] at Ij fpj w0
  obtain ⟨cl, ecl⟩ : ∃ cl, cl = cellsFrom (t3.heap.objs.size + 1) scope.names (cloFrom X.env.cells scope.names []) := ⟨_, rfl⟩
  obtain ⟨C, eC⟩ : ∃ C, C = t3.heap.objs.size := ⟨_, rfl⟩
  obtain ⟨t4, e4⟩ : ∃ t4 : Shared, t4 = { t3 with heap := pushCells (t3.heap.push { cls := .type "dict", data := .dict #[] }) scope.names } := ⟨_, rfl⟩
  have Ib : Inv (Blk X scope t3 Hj C cl fp) [] (wipe σ (own.map (·.2))) Hj t4 := by
    rw [e4, ecl, eC]
    exact block_start Ij ok nd fpj
  have stb : tn 0 t4.heap := T.keep _ _ _ stj fun b _ u z => by rw [e4]; exact pushCells_keeps _ _ _ _ (Heap.get?_push_of_some _ z)
  have goal : codeAny (model X.prog X.w) X.A (.compStart node 0 (.ref it) (.ref D) (compEnvC scope cl C X.env)) (compPost (model X.prog X.w) X.A X.xe use Qf (.ref D) C) t4 := by
    have idle : ∀ {σ' : L2.St} {H' : Hp} {s' : Shared}, Inv (Blk X scope t3 Hj C cl fp) [] σ' H' s' → (∀ b ∈ fp, H' b = none) → ∀ b ∈ fp, FpOk (Blk X scope t3 Hj C cl fp) [] H' b := fun {σ' H' s'} K hn b hb =>
      ⟨hn b hb, (K.ok.exf b hb).1, K.ok.exfs b hb, .inl hb, (K.ok.exf b hb).2, fun p hp => by simp at hp⟩
    have lp : codeAny (model X.prog X.w) X.A (.compLoop node 0 (.ref it) (.ref D) (compEnvC scope cl C X.env)) (compPost (model X.prog X.w) X.A X.xe use Qf (.ref D) C) t4 := by
      refine F.loop _ _ _ _ _ (fun n s' => ∃ i H', Inv (Blk X scope t3 Hj C cl fp) [] (wipe σ (own.map (·.2))) H' s' ∧ tn i s'.heap ∧ (∀ b ∈ fp, H' b = none) ∧ W i n H') m0 ?_ ⟨0, Hj, Ib, stb, fun b hb => (fpj b hb).1.1, w0⟩
      rintro n t5 ⟨i, H5, I5, st5, n5, w5⟩
      rcases turn i n H5 w5 with ⟨stop, qq⟩ | ⟨go, Nx, hNx, step⟩
      · refine thnF (T.done (Blk X scope t3 Hj C cl fp) rfl rfl rfl calm i [] t5 _ H5 (fun _ _ => False) I5 (idle I5 n5) st5 stop) fun r t6 ⟨hr, I6⟩ => ?_
        subst hr
        have I7 : Inv X pins σ H5 t6 := Ij.call' (ch := fp) I6.os I6.base I6.hok I6.bare fun b hb => have z := (fpj b hb).1; ⟨z.2.2.2.1, z.2.1, z.2.2.2.2.1, z.2.2.2.2.2⟩
        obtain ⟨m, hn, _⟩ := I6.loc
        exact fin D C t6 m H5 I7 qq hn (by rw [eC]; exact Ij.fpOk (Nat.le_refl _) (by have z : H5 C = none := I6.free; rw [eC] at z; exact z))
      · refine thnF (T.item (Blk X scope t3 Hj C cl fp) rfl rfl rfl calm i [] t5 _ H5 (fun _ _ => False) I5 (idle I5 n5) st5 go) fun r t6 ⟨u, hr, h6⟩ => ?_
        subst hr
        refine thnF h6 fun _ t7 ⟨x, H7, I7, r7, y7, st7, n7⟩ => ?_
        refine thnF ((ptg t3 Hj C cl fp).run _ t7 _ H7 x u _ (I7.pinned (idle I7 n7) (T.obj _ _ st7)) r7 (step x H7 y7)) fun _ t8 ⟨σ8, H8, I8, hw8, q8⟩ => ?_
        refine thnF ((pif t3 Hj C cl fp).run _ t8 σ8 H8 _ I8 q8) fun b t9 ⟨H9, I9, q9⟩ => ?_
        have next : ∀ (s' : Shared) (H' : Hp), Inv (Blk X scope t3 Hj C cl fp) ([] ++ pinsAt fp t7.heap) σ8 H' s' → Nx H' → ∃ m, m < n ∧ ∃ i H', Inv (Blk X scope t3 Hj C cl fp) [] (wipe σ (own.map (·.2))) H' s' ∧ tn i s'.heap ∧ (∀ b ∈ fp, H' b = none) ∧ W i m H' := fun s' H' K nx => by
          obtain ⟨m', lt, w'⟩ := hNx H' nx
          have pinned : ∀ b ∈ fp, ∀ o, t7.heap.get? b = some o → s'.heap.get? b = some o ∧ H' b = none := fun b hb o eo =>
            have z := K.pin (b, o) (List.mem_append_right _ (List.mem_append_right _ (mem_pinsAt hb eo)))
            ⟨z.1, z.2.1⟩
          refine ⟨m', lt, i + 1, H', (K.unpinned (pins := [])).weak (by rw [← hw8, wipe_length]) (fun j v ej => ?_), T.keep _ _ _ st7 fun b hb o eo => (pinned b hb o eo).1, fun b hb => ?_, w'⟩
          · rw [← hw8] at ej
            exact (wipe_some ej).1
          · obtain ⟨o, eo, _⟩ := T.obj _ _ st7 b hb
            exact (pinned b hb o eo).2
        cases b with
        | false =>
          rw [if_neg Bool.false_ne_true] at q9 ⊢
          exact next t9 H9 I9 q9
        | true =>
          rw [if_pos rfl] at q9 ⊢
          exact F.run t3 Hj C cl fp _ σ8 H9 t9 D Nx _ _ I9 q9 next
    exact F.start _ _ _ _ _ lp (T.self X.A 0 _ _ _ stb lp)
  rw [e4, ecl, eC, e3] at goal
  exact goal
/-- as a value -/
theorem pe_fill (F : Fill X node scope tg iter ifs mk o0 N0 act put) (ev : eval node X.env = comprehension node scope X.env pos' mk false (eval iter X.env)) (calm : X.calm = true) (nd : X.N.Nodup) (pit : PI X tg iter wi) (ok : BlkOk X.N X.env.scope scope own)
    (ptg : ∀ sb Hb C cl fp, PG (Blk X scope sb Hb C cl fp) tg g) (pif : ∀ sb Hb C cl fp, PTs (Blk X scope sb Hb C cl fp) ifs tt) (unf : ∀ x, foldedSetIterable iter X.env x = pure x) : PE X node (tFill N0 wi g tt put (own.map (·.2))) := by
  refine ⟨fun pins s σ H Q I h => ?_⟩
  rw [ev]
  refine fill_core F calm nd I pit ok ptg pif unf h fun D C s' m H' K q hn f => ⟨m, hn, fun h2 sb => ?_⟩
  exact ⟨.ref D, H', K.turned (t' := s'.toks) (fun b o hb e => (sb.2 b hb).trans e) f.1 f.2.1 f.2.2.2.1 f.2.2.2.2.1 f.2.2.2.2.2, rfl, q⟩
/-- y = it, on one line, y a local -/
theorem ps_setFill {i : Nat} {y : Str} {py spos : Pos} (F : Fill X node scope tg iter ifs mk o0 N0 act put)
    (ex : exec (.Assign [.Name y py] node spos) X.env = (do standAt spos; let _ ← (do let _ ← comprehension node scope X.env pos' mk false (eval iter X.env) (some (assign (.Name y py) X.env))); pure .next))
    (calm : X.calm = true) (nd : X.N.Nodup) (hy : X.N[i]? = some y) (hyl : X.env.scope.names.lookup y = some .local) (pit : PI X tg iter wi) (ok : BlkOk X.N X.env.scope scope own)
    (ptg : ∀ sb Hb C cl fp, PG (Blk X scope sb Hb C cl fp) tg g) (pif : ∀ sb Hb C cl fp, PTs (Blk X scope sb Hb C cl fp) ifs tt) (unf : ∀ x, foldedSetIterable iter X.env x = pure x) :
    PS X (.Assign [.Name y py] node spos) (tAsg (tFill N0 wi g tt put (own.map (·.2))) (gName i)) := by
  refine ⟨fun pins s σ H D I h => ?_⟩
  have h' : tFill N0 wi g tt put (own.map (·.2)) σ H (fun x H1 => gName i x σ H1 D.nx) := h
  rw [ex]
  refine wpAny_bind (wpAny_standAt (wpAny_bind (wpAny_bind (thn (fill_core (Qf := fun _ s' => SP X pins D .next s') F calm nd I pit ok ptg pif unf h' fun L C s' m H' K q hn f => ?_) fun _ s' hq => wpAny_pure (wpAny_pure hq)))))
  show wpAny _ _ (assign (.Name y py) X.env (.ref L)) _ _ _
  refine wpAny_assign_Name (store_ok2 (v := V.ref L) K nd hy (.inl hyl) rfl (fun t2 K2 ⟨a, sb, ha⟩ => ?_) (.inr hyl))
  have ne : C ≠ a := ha.elim (fun z => by rw [z]; exact f.2.1) fun z e => f.2.2.2.2.1 y a z e.symm
  exact ⟨m, hn.sameBut sb ne, fun h3 sb3 => ⟨_, H', K2.turned (t' := t2.toks) (fun b o hb e => (sb3.2 b hb).trans e) f.1 f.2.1 f.2.2.2.1 f.2.2.2.2.1 f.2.2.2.2.2, q⟩⟩
end

/-! ### what is held, by the keys -/
theorem onceK_snoc {k : List Int} : ∀ {ks done : List (List Int)}, onceK done (ks ++ [k]) = match memK k (onceK done ks) with
    | true => onceK done ks
    | false => onceK done ks ++ [k]
  | [], done => rfl
  | x :: ks, done => by
    rw [List.cons_append, onceK, onceK]
    cases memK x done
    · exact onceK_snoc
    · exact onceK_snoc
/-- the object at D holds these keys -/
structure Held (K : PySem.W.Frag) (N : Hp → List (List Int) → Prop) : Prop where
  ex : ∀ H H' ks, Ex H H' → N H ks → N H' ks
/-- what the turns make -/
theorem fill_turns {X : Cx} {g : TG} {mg_ : D → Env → Option Env} {mc : M Bool} {me : M W} {vs : List Nat} {ρ : Env} {σ : L2.St} {B H1 : Hp} {ds es : List D} {xs : List V} {J : It} {Dl : Addr} {Q : VK} {N0 : Addr → HO} {put : TPut} {N : Hp → List (List Int) → Prop} {ks : List (List Int)}
    (hN : Held X.K N) (n0 : N (upd H1 Dl (N0 Dl)) [])
    (hput : ∀ ρ B σ H k ks y Nx, me ρ = some (.d y) → keyD y = some k → RE X.prog X.w X.K B ρ σ H → N H ks → ks.length < 60 → (∀ H4 o, Ex H H4 → N (upd H4 Dl o) (ks ++ [k]) → Nx (upd H4 Dl o)) → put σ H Dl Nx)
    (hv : EvV X.K X.prog X.w vs g mg_) (R : REX X B ρ σ H1) (rA : RepA X.K H1 ds xs) (wk : Wk J H1 xs) (e : lcL mg_ mc me (wip ρ vs) ds = some es) (ek : keysD es = some ks) (hl : ks.length ≤ 60) (hD : H1 Dl = none) (q : ∀ H2, Ex H1 H2 → N H2 ks → Q (.ref Dl) H2) :
    ∃ W : Nat → Nat → Hp → Prop, (∃ m, W 0 m (upd H1 Dl (N0 Dl))) ∧ ∀ i m H, W i m H → (J.stop i H ∧ Q (.ref Dl) H) ∨ (J.go i H ∧ ∃ Nx : Hp → Prop, (∀ H', Nx H' → ∃ m', m' < m ∧ W (i + 1) m' H') ∧ ∀ x H', J.yld i H x H' → g x (wipe σ vs) H' fun σ2 H2 => wipe σ2 vs = wipe σ vs ∧ tMT X.prog X.w X.K mc σ2 H2 fun b H3 =>
      if b = true then put σ2 H3 Dl Nx else Nx H3) := by
  have hlen := repA_len rA
  have ww : wipe (wipe σ vs) vs = wipe σ vs := wipe_wipe
  have snoc : ∀ (y : D) (k : List Int) (ys : List D) (kr : List (List Int)), keyD y = some k → keysD (y :: ys) = some kr → ∃ kr', keysD ys = some kr' ∧ kr = k :: kr' := fun y k ys kr h1 h2 => by
    simp only [keysD, h1] at h2
    cases q2 : keysD ys with
    | none =>
      rw [q2] at h2
      cases h2
    | some kr' =>
      rw [q2] at h2
      cases h2
      exact ⟨kr', rfl, rfl⟩
  let Pv : Nat → Hp → Prop := fun i H' => Ex H1 H' ∧ ∃ rest kd kr, lcL mg_ mc me (wip ρ vs) (ds.drop i) = some rest ∧ keysD rest = some kr ∧ ks = kd ++ kr ∧ N H' kd
  refine ⟨fun i m H' => m = ds.length - i ∧ i ≤ ds.length ∧ Pv i H', ⟨ds.length, by simp, Nat.zero_le _, Ex.new hD, es, [], ks, by rw [List.drop_zero]; exact e, ek, rfl, n0⟩, ?_⟩
  rintro i m H2 ⟨rfl, hi, e2, rest, kd, kr, f2, fk, ed, nh⟩
  by_cases hlt : i < ds.length
  · refine .inr ⟨wk.go H2 e2 i (by rw [hlen]; exact hlt), Pv (i + 1), fun H' p' => ⟨_, by omega, rfl, hlt, p'⟩, fun x H' y => ?_⟩
    obtain ⟨rfl, hx⟩ := wk.yld H2 e2 i x H' (by rw [hlen]; exact hlt) y
    obtain ⟨x', hx', rx⟩ := repA_get rA (List.getElem?_eq_getElem hlt)
    rw [hx] at hx'
    cases hx'
    rw [List.drop_eq_getElem_cons hlt] at f2
    unfold lcL at f2
    split at f2
    · rename_i ρ1 h1
      refine hv _ ρ1 _ x B (wipe σ vs) _ _ h1 (Rep.sta e2.sta _ _ rx) ((R.mono e2).wip vs) fun σ' R' hw => ⟨by rw [hw, ww], ?_⟩
      split at f2
      · rename_i hc
        refine ⟨ρ1, true, B, hc, R', fun H3 e3 => ?_⟩
        dsimp only
        rw [if_pos rfl]
        split at f2
        · rename_i yv hy
          split at f2
          · rename_i ys hys
            cases f2
            have hk : ∃ k, keyD yv = some k := by
              simp only [keysD] at fk
              cases q3 : keyD yv with
              | none =>
                rw [q3] at fk
                cases fk
              | some k => exact ⟨k, rfl⟩
            obtain ⟨k, hk⟩ := hk
            obtain ⟨kr', fk', rfl⟩ := snoc yv k ys kr hk fk
            refine hput ρ1 B σ' H3 k kd yv _ hy hk (R'.mono e3) (hN.ex _ _ _ e3 nh) ?_ fun H4 o e4 n4 => ⟨((e2.trans e3).trans e4).mut hD, ys, kd ++ [k], kr', hys, fk', by rw [ed, List.append_assoc]; rfl, n4⟩
            rw [ed, List.length_append, List.length_cons] at hl
            omega
          · cases f2
        · cases f2
      · rename_i hc
        refine ⟨ρ1, false, B, hc, R', fun H3 e3 => ?_⟩
        dsimp only
        rw [if_neg Bool.false_ne_true]
        exact ⟨e2.trans e3, rest, kd, kr, f2, fk, ed, hN.ex _ _ _ e3 nh⟩
      · cases f2
    · cases f2
  · have ei : i = ds.length := by omega
    subst ei
    refine .inl ⟨wk.stop H2 e2 _ (by rw [hlen]; exact Nat.le_refl _), q H2 e2 ?_⟩
    rw [List.drop_length] at f2
    unfold lcL at f2
    cases f2
    simp only [keysD] at fk
    cases fk
    rw [List.append_nil] at ed
    rw [ed]
    exact nh
end DL
set_option Elab.async false
set_option linter.all false
set_option maxRecDepth 100000
set_option maxHeartbeats 4000000
/-! DLv: set and dict comprehensions of rows of ints. -/
namespace DL
open PySem PySem.Spec PyProof.Rows L2
theorem setT0_new {P : Program} {w : World} (h : Heap) : SetT0 P w (h.push { cls := .type "set", dict := none, data := .set #[] 0 (.fresh 0 0 (!w.params.followText "set-order")) }) h.objs.size [] :=
  (setTR_fresh (P := P) (Heap.get?_push_size _ rfl)).t0
section
variable {X : Cx} {pins : List (Addr × Obj)} {σ : L2.St} {H : Hp} {s : Shared} {E : Value → Shared → Prop}
/-- D.add(t), t a row of ints -/
theorem add_row {Q : Value → Shared → Prop} {D t : Addr} {L : List (Addr × List Int)} {k : List Int} (I : Inv X pins σ H s) (hu : X.A.units + 64 < cLine) (hD : H D = some (SetTO X.prog X.w D L)) (hL : ∀ p ∈ L, SqT X.K H p.1 (p.2.map V.int)) (ht : SqT X.K H t (k.map V.int)) (hf : L.length + 1 < 64)
    (h : ∀ L' s', (k ∈ L.map (·.2) → L' = L) → (k ∉ L.map (·.2) → L'.Perm ((t, k) :: L)) → Inv X pins σ (upd H D (SetTO X.prog X.w D L')) s' → Q .none s') : wpAny (model X.prog X.w) X.A (call (.builtin "set.add") [.ref D, .ref t]) Q E s := by
  have R0 : SetT0 X.prog X.w s.heap D L := (I.hok D _ hD).1
  obtain ⟨es, ep, tb, R⟩ := R0.full fun p hp => I.isT (hL p hp)
  obtain ⟨o, ho, hx, hd⟩ := R.ob
  have key := I.isT ht
  refine wpAny_call_entry PySem.F.slot_set_add ⟨o, ho, hx.1⟩ PySem.F.entry_set_add ?_ (PySem.F.args_set_add_2 _ _)
  unfold Builtin.«set.add»
  unfold Builtin.Frozenset.oneOther
  simp only [bind_assoc, List.isEmpty_nil]
  unfold Builtin.Frozenset.addrOf
  refine wpAny_bind (wpAny_pure ?_)
  try dsimp only
  refine wpAny_bind (wpAny_pure ?_)
  try dsimp only
  unfold setAdd
  refine wpAny_bind (wpAny_holding (wpAny_bind ((tupleKind (intKind X.prog X.w)).pyHash (show X.A.in1.units < cLine from ?_) key ?_)))
  · show X.A.units + 1 < cLine
    omega
  refine add_at (s := { s with toks := s.toks + (tupleKind (intKind X.prog X.w)).draws k }) R key (show X.A.in1.units < cLine from ?_) hf fun b h' L' es' ep' t' sb R' c1 c2 => ?_
  · show X.A.units + 1 < cLine
    omega
  refine wpAny_pure ⟨_, rfl, h L' _ c1 c2 ?_⟩
  exact I.write (e := D) (t' := s.toks + (tupleKind (intKind X.prog X.w)).draws k) (by rw [hD]; trivial) (.inl rfl) (fun b u nb hb => (sb.2 b nb).trans hb) (let ⟨o', ho', _⟩ := R'.ob; ⟨o', ho'⟩) (setTO_new R'.t0)
def putT (L : List (Addr × List Int)) (t : Addr) (k : List Int) : List (Addr × List Int) := if k ∈ L.map (·.2) then L else L ++ [(t, k)]
theorem rowsD_cons (p : Addr × List Int) (L : List (Addr × List Int)) : rowsD (p :: L) = (p.2, p.1, Value.bool true) :: rowsD L := rfl
theorem atKey_rows {k : List Int} : ∀ {L : List (Addr × List Int)}, (atKey (rowsD L) k).isSome = decide (k ∈ L.map (·.2))
  | [] => rfl
  | p :: L => by
    have ih := atKey_rows (k := k) (L := L)
    rw [rowsD_cons]
    unfold atKey at ih ⊢
    rw [List.find?_cons]
    by_cases h : p.2 = k
    · rw [decide_eq_true h]
      simp [h]
    · rw [decide_eq_false h]
      dsimp only
      rw [ih, List.map_cons]
      congr 1
      rw [List.mem_cons, eq_iff_iff]
      exact ⟨.inr, fun z => z.elim (fun e => absurd e.symm h) id⟩
theorem stored_rows {L : List (Addr × List Int)} {t : Addr} {k : List Int} : storedH (rowsD L) k t (.bool true) = rowsD (putT L t k) := by
  unfold storedH putT
  rw [atKey_rows]
  by_cases h : k ∈ L.map (·.2)
  · rw [decide_eq_true h, if_pos rfl, if_pos h]
    unfold rowsD
    rw [List.map_map]
    refine List.map_congr_left fun p _ => ?_
    show putAt k (.bool true) (p.2, p.1, Value.bool true) = _
    unfold putAt
    split <;> rfl
  · rw [decide_eq_false h, if_neg Bool.false_ne_true, if_neg h]
    unfold rowsD
    rw [List.map_append]
    rfl
theorem rowsD_keys (L : List (Addr × List Int)) : (rowsD L).map (·.1) = L.map (·.2) := by
  unfold rowsD
  rw [List.map_map]
  rfl
theorem dctA_new {P : Program} {w : World} {H : Hp} {h : Heap} {a : Addr} {L : List (Addr × List Int)} (R : DctA P w h a L) : ObjOk P w H h a (DctO P w a L) := by
  obtain ⟨o, es, ep, ho, r⟩ := R.ex
  exact ⟨R, ⟨o, ho⟩, fun h1 h2 p k => ⟨p.lo, p.nd, p.few, let ⟨o', es', ep', ho', r'⟩ := p.ex; ⟨o', es', ep', k _ ho', r'⟩⟩⟩
/-- D[t] = True, t a row of ints -/
theorem put_row {Q : Unit → Shared → Prop} {D t : Addr} {L : List (Addr × List Int)} {k : List Int} (I : Inv X pins σ H s) (hu : X.A.units + 64 < cLine) (hD : H D = some (DctO X.prog X.w D L)) (hL : ∀ p ∈ L, SqT X.K H p.1 (p.2.map V.int)) (ht : SqT X.K H t (k.map V.int)) (hf : L.length < 60)
    (h : ∀ s', Inv X pins σ (upd H D (DctO X.prog X.w D (putT L t k))) s' → Q () s') : wpAny (model X.prog X.w) X.A (dictSet D (.ref t) (.bool true)) Q E s := by
  have R : DctA X.prog X.w s.heap D L := (I.hok D _ hD).1
  obtain ⟨o, es, ep, ho, hx, hd, he⟩ := R.ex
  have at_ : s.heap.DictOfH (tupleKind (intKind X.prog X.w)) D (rowsD L) := ⟨o, es, ep, ho, hx, hd, he, fun x hm => by
    obtain ⟨p, hp, e⟩ := List.mem_map.mp hm
    rw [← e]
    exact I.isT (hL p hp), by rw [rowsD_keys]; exact R.nd⟩
  refine wpAny_dictSet_heap (knd := tupleKind (intKind X.prog X.w)) (show X.A.units < cLine by omega) (I.isT ht) at_ (fun h' R' sb => ?_) (by unfold rowsD; rw [List.length_map, sizeLine_eq]; omega)
  rw [stored_rows] at R'
  obtain ⟨o', es', ep', ho', hx', hd', he', _, nd'⟩ := R'
  rw [rowsD_keys] at nd'
  have new : DctA X.prog X.w h' D (putT L t k) := ⟨R.lo, nd', by
    unfold putT
    split
    · omega
    · rw [List.length_append]
      show L.length + 1 ≤ 60
      omega, o', es', ep', ho', hx', hd', he'⟩
  exact h _ (I.write (e := D) (t' := _) (by rw [hD]; trivial) (.inl rfl) (fun b u nb hb => (sb.2 b nb).trans hb) ⟨o', ho'⟩ (dctA_new new))
end

/-! ### the two kinds -/
def actS (X : Cx) (elt : Expr) : TAct := fun D ce Z E s => wpAny (model X.prog X.w) X.A (eval elt ce) (fun x s4 => wpAny (model X.prog X.w) X.A (call (.builtin "set.add") [.ref D, x]) (fun _ s5 => Z s5) E s4) E s
def putS (X : Cx) (te : TE) : TPut := fun σ H D Nx => te σ H fun y H4 => ∃ t k L, y = .ref t ∧ SqT X.K H4 t (k.map V.int) ∧ H4 D = some (SetTO X.prog X.w D L) ∧ (∀ p ∈ L, SqT X.K H4 p.1 (p.2.map V.int)) ∧ L.length + 1 < 64 ∧
  ∀ L', (k ∈ L.map (·.2) → L' = L) → (k ∉ L.map (·.2) → L'.Perm ((t, k) :: L)) → Nx (upd H4 D (SetTO X.prog X.w D L'))
def actD (X : Cx) (kx vx : Expr) : TAct := fun D ce Z E s => wpAny (model X.prog X.w) X.A (eval kx ce) (fun x s4 => wpAny (model X.prog X.w) X.A (eval vx ce) (fun y s5 => wpAny (model X.prog X.w) X.A (dictSet D x y) (fun _ s6 => Z s6) E s5) E s4) E s
def putD (X : Cx) (tk tv : TE) : TPut := fun σ H D Nx => tk σ H fun y H4 => tv σ H4 fun z H5 => ∃ t k L, y = .ref t ∧ z = .bl true ∧ SqT X.K H5 t (k.map V.int) ∧ H5 D = some (DctO X.prog X.w D L) ∧ (∀ p ∈ L, SqT X.K H5 p.1 (p.2.map V.int)) ∧ L.length < 60 ∧
  Nx (upd H5 D (DctO X.prog X.w D (putT L t k)))
section
variable {X : Cx} {tg iter elt kx vx : Expr} {ifs : List Expr} {scope : Scope} {pos : Pos} {te tk tv : TE}
theorem fill_set (hu : X.A.units + 64 < cLine) (he : ∀ sb Hb C cl fp, PE (Blk X scope sb Hb C cl fp) elt te) :
    Fill X (.SetComp elt [⟨tg, iter, ifs, 0⟩] scope pos) scope tg iter ifs (newSet (.type "set")) { cls := .type "set", dict := none, data := .set #[] 0 (.fresh 0 0 (!X.w.params.followText "set-order")) } (fun a => SetTO X.prog X.w a []) (actS X elt) (putS X te) where
  cls := rfl
  make := fun E s Q h => PpSet.newSet_ok h
  new := fun H h _ => setTO_new (setT0_new h)
  start := fun it acc ce R s h0 h => PpSet.codeAny_compStart_set h0 h
  loop := fun it D ce R s J n turn h0 => PpSet.compLoopS_any J turn n h0
  run := fun sb Hb C cl fp pins σ H s D Nx E Z I h k => by
    refine thnF ((he sb Hb C cl fp).run pins s σ H _ I h) fun x s4 ⟨y, H4, I4, r4, t, ks, L, ey, ht, hD, hL, hf, nx⟩ => ?_
    subst ey
    cases (show x = Value.ref t from r4)
    exact add_row (X := Blk X scope sb Hb C cl fp) I4 hu hD hL ht hf fun L' s' c1 c2 I' => k s' _ I' (nx L' c1 c2)
theorem fill_dict (hu : X.A.units + 64 < cLine) (hk : ∀ sb Hb C cl fp, PE (Blk X scope sb Hb C cl fp) kx tk) (he : ∀ sb Hb C cl fp, PE (Blk X scope sb Hb C cl fp) vx tv) :
    Fill X (.DictComp kx vx [⟨tg, iter, ifs, 0⟩] scope pos) scope tg iter ifs newDict { cls := .type "dict", data := .dict #[] } (fun a => DctO X.prog X.w a []) (actD X kx vx) (putD X tk tv) where
  cls := rfl
  make := fun E s Q h => wpAny_newObj_type h
  new := fun H h hb => dctA_new ⟨beq_eq_false_iff_ne.mpr (Ne.symm (Nat.ne_of_lt hb)), List.nodup_nil, Nat.zero_le _, _, #[], 0, Heap.get?_push_size _ rfl, ⟨rfl, rfl, rfl⟩, rfl, rfl⟩
  start := fun it acc ce R s h0 h => codeAny_compStart_dict h0 h
  loop := fun it D ce R s J n turn h0 => compLoop_anyD J turn n h0
  run := fun sb Hb C cl fp pins σ H s D Nx E Z I h k => by
    refine thnF ((hk sb Hb C cl fp).run pins s σ H _ I h) fun x s4 ⟨y, H4, I4, r4, h4⟩ => ?_
    refine thnF ((he sb Hb C cl fp).run pins s4 σ H4 _ I4 h4) fun z s5 ⟨u, H5, I5, r5, t, ks, L, ey, ez, ht, hD, hL, hf, nx⟩ => ?_
    subst ey ez
    cases (show x = Value.ref t from r4)
    cases (show z = Value.bool true from r5)
    exact put_row (X := Blk X scope sb Hb C cl fp) I5 hu hD hL ht hf fun s' I' => k s' _ I' nx

/-! ### at the data -/
variable {own : List (Str × Nat)} {g : TG} {gm : D → Env → Option Env} {it : M (List D)} {mc : M Bool} {me : M W}
def NS (X : Cx) (D : Addr) (H : Hp) (ks : List (List Int)) : Prop := ∃ L, H D = some (SetTO X.prog X.w D L) ∧ (∀ p ∈ L, SqT X.K H p.1 (p.2.map V.int)) ∧ (L.map (·.2)).Perm (onceK [] ks)
def ND (X : Cx) (D : Addr) (H : Hp) (ks : List (List Int)) : Prop := ∃ L, H D = some (DctO X.prog X.w D L) ∧ (∀ p ∈ L, SqT X.K H p.1 (p.2.map V.int)) ∧ L.map (·.2) = onceK [] ks
theorem held_NS {D : Addr} : Held X.K (NS X D) := ⟨fun H H' ks e ⟨L, h1, h2, h3⟩ => ⟨L, e.at h1 set_not.2, fun p hp => e.sta.t (h2 p hp), h3⟩⟩
theorem held_ND {D : Addr} : Held X.K (ND X D) := ⟨fun H H' ks e ⟨L, h1, h2, h3⟩ => ⟨L, e.at h1 dct_not, fun p hp => e.sta.t (h2 p hp), h3⟩⟩
theorem once_len : ∀ {ks done : List (List Int)}, (onceK done ks).length ≤ done.length + ks.length
  | [], done => by simp [onceK]
  | x :: ks, done => by
    rw [onceK]
    split
    · have := once_len (ks := ks) (done := done)
      rw [List.length_cons]
      omega
    · have := once_len (ks := ks) (done := done ++ [x])
      rw [List.length_append, List.length_singleton] at this
      rw [List.length_cons]
      omega
theorem sta_ext {H : Hp} {D : Addr} {o u : HO} (h : H D = some o) {K : PySem.W.Frag} {a : Addr} {xs : List V} (n : ∀ ys, o ≠ .tup ys) (n2 : ∀ ob v, o ≠ .frz ob v) (t : SqT K H a xs) : SqT K (upd H D u) a xs := by
  rcases t with (t | ⟨ob, t⟩) | t
  · exact .inl (.inl (by rw [upd_ne (fun z => by rw [z, h] at t; exact n _ (Option.some.inj t))]; exact t))
  · exact .inl (.inr ⟨ob, by rw [upd_ne (fun z => by rw [z, h] at t; exact n2 _ _ (Option.some.inj t))]; exact t⟩)
  · exact .inr t
theorem key_tup {H : Hp} {y : D} {k : List Int} {v : V} (h : keyD y = some k) (r : RepW X.prog X.w X.K H (.d y) v) : ∃ t, v = .ref t ∧ SqT X.K H t (k.map V.int) := by
  cases y with
  | tup ds =>
    obtain ⟨a, xs, rfl, h1, h2⟩ := rep_tup r
    have e := repA_ints h2 h
    subst e
    exact ⟨a, rfl, h1⟩
  | _ => cases h
theorem put_set {D : Addr} (ρ : Env) (B : Hp) (σ : L2.St) (H : Hp) (k : List Int) (ks : List (List Int)) (y : DL.D) (Nx : Hp → Prop) (e : me ρ = some (.d y)) (hk : keyD y = some k) (R : RE X.prog X.w X.K B ρ σ H) (n : NS X D H ks) (hl : ks.length < 60)
    (h : ∀ H4 o, Ex H H4 → NS X D (upd H4 D o) (ks ++ [k]) → Nx (upd H4 D o)) : putS X (tM X.prog X.w X.K me) σ H D Nx := by
  refine ⟨ρ, _, B, e, R, fun v H4 e4 r4 => ?_⟩
  obtain ⟨L, h1, h2, h3⟩ := held_NS.ex _ _ _ e4 n
  obtain ⟨t, rfl, ht⟩ := key_tup hk r4.1
  have ll : L.length ≤ ks.length := by
    have z := h3.length_eq
    have z2 := once_len (ks := ks) (done := [])
    rw [List.length_map] at z
    simp at z2
    omega
  have st : ∀ {a xs} {u : HO}, SqT X.K H4 a xs → SqT X.K (upd H4 D u) a xs := fun {a xs u} q => sta_ext h1 (fun ys z => by unfold SetTO at z; cases z) (fun ob v z => by unfold SetTO at z; cases z) q
  refine ⟨t, k, L, rfl, ht, h1, h2, by omega, fun L' c1 c2 => h H4 _ e4 ?_⟩
  rw [NS]
  by_cases hm : k ∈ L.map (·.2)
  · have eL := c1 hm
    subst eL
    refine ⟨L', upd_same, fun p hp => st (h2 p hp), ?_⟩
    rw [onceK_snoc, memK_iff.mpr (h3.mem_iff.mp hm)]
    exact h3
  · refine ⟨L', upd_same, fun p hp => ?_, ?_⟩
    · rcases List.mem_cons.mp ((c2 hm).mem_iff.mp hp) with z | z
      · rw [z]
        exact st ht
      · exact st (h2 p z)
    · have hf : memK k (onceK [] ks) = false := by
        cases q : memK k (onceK [] ks) with
        | false => rfl
        | true => exact absurd (h3.mem_iff.mpr (memK_iff.mp q)) hm
      rw [onceK_snoc, hf]
      refine ((c2 hm).map (·.2)).trans ?_
      rw [List.map_cons]
      exact (List.Perm.cons k h3).trans (List.perm_append_singleton _ _).symm
theorem put_dict {D : Addr} (ρ : Env) (B : Hp) (σ : L2.St) (H : Hp) (k : List Int) (ks : List (List Int)) (y : DL.D) (Nx : Hp → Prop) (e : me ρ = some (.d y)) (hk : keyD y = some k) (R : RE X.prog X.w X.K B ρ σ H) (n : ND X D H ks) (hl : ks.length < 60)
    (h : ∀ H4 o, Ex H H4 → ND X D (upd H4 D o) (ks ++ [k]) → Nx (upd H4 D o)) : putD X (tM X.prog X.w X.K me) (tC (.bl true)) σ H D Nx := by
  refine ⟨ρ, _, B, e, R, fun v H4 e4 r4 => ?_⟩
  obtain ⟨L, h1, h2, h3⟩ := held_ND.ex _ _ _ e4 n
  obtain ⟨t, rfl, ht⟩ := key_tup hk r4.1
  have ll : L.length ≤ ks.length := by
    have z := congrArg List.length h3
    have z2 := once_len (ks := ks) (done := [])
    rw [List.length_map] at z
    simp at z2
    omega
  have st : ∀ {a xs} {u : HO}, SqT X.K H4 a xs → SqT X.K (upd H4 D u) a xs := fun {a xs u} q => sta_ext h1 (fun ys z => by unfold DctO at z; cases z) (fun ob v z => by unfold DctO at z; cases z) q
  refine ⟨t, k, L, rfl, rfl, ht, h1, h2, by omega, h H4 _ e4 ⟨putT L t k, upd_same, fun p hp => ?_, ?_⟩⟩
  · unfold putT at hp
    split at hp
    · exact st (h2 p hp)
    · rcases List.mem_append.mp hp with z | z
      · exact st (h2 p z)
      · rw [List.mem_singleton.mp z]
        exact st ht
  · rw [onceK_snoc, ← h3]
    unfold putT
    by_cases hm : k ∈ L.map (·.2)
    · rw [if_pos hm, memK_iff.mpr hm]
    · have hf : memK k (L.map (·.2)) = false := by
        cases q : memK k (L.map (·.2)) with
        | false => rfl
        | true => exact absurd (memK_iff.mp q) hm
      rw [if_neg hm, hf, List.map_append]
      rfl
theorem setD_some {es : List DL.D} {y : W} (h : setD es = some y) : ∃ ks, keysD es = some ks ∧ ks.length ≤ 60 ∧ y = .set ((onceK [] ks).map tupK) := by
  unfold setD at h
  split at h
  · rename_i ks hk
    split at h
    · rename_i hb
      cases h
      rw [Bool.and_eq_true] at hb
      exact ⟨ks, hk, Nat.le_of_ble_eq_true hb.2, rfl⟩
    · cases h
  · cases h
theorem dctD_some {es : List DL.D} {y : W} (h : dctD es = some y) : ∃ ks, keysD es = some ks ∧ ks.length ≤ 60 ∧ y = .dct ((onceK [] ks).map tupK) := by
  unfold dctD at h
  split at h
  · rename_i ks hk
    split at h
    · rename_i hb
      cases h
      rw [Bool.and_eq_true] at hb
      exact ⟨ks, hk, Nat.le_of_ble_eq_true hb.2, rfl⟩
    · cases h
  · cases h
theorem mSc_some {vs : List Nat} {gm : DL.D → Env → Option Env} {ρ : Env} {y : W} (h : mSc it vs gm mc me ρ = some y) : ∃ ds es, it ρ = some ds ∧ lcL gm mc me (wip ρ vs) ds = some es ∧ setD es = some y := by
  unfold mSc at h
  split at h
  · rename_i ds hd
    split at h
    · rename_i es he
      exact ⟨ds, es, hd, he, h⟩
    · cases h
  · cases h
theorem mDc_some {vs : List Nat} {gm : DL.D → Env → Option Env} {ρ : Env} {y : W} (h : mDc it vs gm mc me ρ = some y) : ∃ ds es, it ρ = some ds ∧ lcL gm mc me (wip ρ vs) ds = some es ∧ dctD es = some y := by
  unfold mDc at h
  split at h
  · rename_i ds hd
    split at h
    · rename_i es he
      exact ⟨ds, es, hd, he, h⟩
    · cases h
  · cases h
theorem ev_sc {wi : TI} {vs : List Nat} {gm : DL.D → Env → Option Env} (ew : EvC X wi it) (hv : EvV X.K X.prog X.w vs g gm) : EvE X (tFill (fun a => SetTO X.prog X.w a []) wi g (tMT X.prog X.w X.K mc) (putS X (tM X.prog X.w X.K me)) vs) (mSc it vs gm mc me) := fun ρ y B σ H Q e R q => by
  obtain ⟨ds, es, h1, h2, h3⟩ := mSc_some e
  obtain ⟨ks, h4, h5, rfl⟩ := setD_some h3
  refine ew ρ ds B σ H _ h1 R fun J H1 xs e1 rA wk D hD => ?_
  refine fill_turns (Dl := D) (H1 := H1) (N0 := fun a => SetTO X.prog X.w a []) (N := NS X D) held_NS (by exact ⟨[], upd_same, fun p hp => (by cases hp), List.Perm.nil⟩) (fun ρ B σ H k ks y Nx a b c d e f => put_set ρ B σ H k ks y Nx a b c d e f) hv (R.mono e1) rA wk h2 h4 h5 hD fun H2 e2 ⟨L, n1, n2, n3⟩ => ?_
  exact q _ H2 (e1.trans e2) ⟨⟨D, L, _, rfl, n1, n2, keysD_map _, n3⟩, trivial⟩
theorem ev_dc {wi : TI} {vs : List Nat} {gm : DL.D → Env → Option Env} (ew : EvC X wi it) (hv : EvV X.K X.prog X.w vs g gm) : EvE X (tFill (fun a => DctO X.prog X.w a []) wi g (tMT X.prog X.w X.K mc) (putD X (tM X.prog X.w X.K me) (tC (.bl true))) vs) (mDc it vs gm mc me) := fun ρ y B σ H Q e R q => by
  obtain ⟨ds, es, h1, h2, h3⟩ := mDc_some e
  obtain ⟨ks, h4, h5, rfl⟩ := dctD_some h3
  refine ew ρ ds B σ H _ h1 R fun J H1 xs e1 rA wk D hD => ?_
  refine fill_turns (Dl := D) (H1 := H1) (N0 := fun a => DctO X.prog X.w a []) (N := ND X D) held_ND (by exact ⟨[], upd_same, fun p hp => (by cases hp), rfl⟩) (fun ρ B σ H k ks y Nx a b c d e f => put_dict ρ B σ H k ks y Nx a b c d e f) hv (R.mono e1) rA wk h2 h4 h5 hD fun H2 e2 ⟨L, n1, n2, n3⟩ => ?_
  exact q _ H2 (e1.trans e2) ⟨⟨D, L, rfl, n1, n2, by rw [n3]; exact keysD_map _⟩, trivial⟩
theorem ge_sc {gm : DL.D → Env → Option Env} (hi : GC X tg iter it) (hv : EvV X.K X.prog X.w (own.map (·.2)) g gm)
    (hg : ∀ s H C cl fp, PG (Blk X scope s H C cl fp) tg g) (ht : ∀ s H C cl fp, GTs (Blk X scope s H C cl fp) ifs mc) (he : ∀ s H C cl fp, GE (Blk X scope s H C cl fp) elt me)
    (hc : X.calm = true) (hu : X.A.units + 64 < cLine) (hN : X.N.Nodup) (ok : BlkOk X.N X.env.scope scope own) (hs : ∀ x, foldedSetIterable iter X.env x = pure x := by intro _; rfl) :
    GE X (.SetComp elt [⟨tg, iter, ifs, 0⟩] scope pos) (mSc it (own.map (·.2)) gm mc me) := by
  obtain ⟨wi, pw, ew⟩ := hi.ex
  exact ⟨_, pe_fill (fill_set hu fun s H C cl fp => (he s H C cl fp).pe) rfl hc hN pw ok hg (fun s H C cl fp => (ht s H C cl fp).ex) hs, ev_sc ew hv⟩
theorem ge_dc {gm : DL.D → Env → Option Env} (hi : GC X tg iter it) (hv : EvV X.K X.prog X.w (own.map (·.2)) g gm)
    (hg : ∀ s H C cl fp, PG (Blk X scope s H C cl fp) tg g) (ht : ∀ s H C cl fp, GTs (Blk X scope s H C cl fp) ifs mc) (hk : ∀ s H C cl fp, GE (Blk X scope s H C cl fp) kx me) (he : ∀ s H C cl fp, PE (Blk X scope s H C cl fp) vx (tC (.bl true)))
    (hc : X.calm = true) (hu : X.A.units + 64 < cLine) (hN : X.N.Nodup) (ok : BlkOk X.N X.env.scope scope own) (hs : ∀ x, foldedSetIterable iter X.env x = pure x := by intro _; rfl) :
    GE X (.DictComp kx vx [⟨tg, iter, ifs, 0⟩] scope pos) (mDc it (own.map (·.2)) gm mc me) := by
  obtain ⟨wi, pw, ew⟩ := hi.ex
  exact ⟨_, pe_fill (fill_dict hu (fun s H C cl fp => (hk s H C cl fp).pe) he) rfl hc hN pw ok hg (fun s H C cl fp => (ht s H C cl fp).ex) hs, ev_dc ew hv⟩
/-- y = {..}, on one line, y a local -/
theorem gs_setSc (i : Nat) {y : Str} {py spos : Pos} {gm : DL.D → Env → Option Env} (hi : GC X tg iter it) (hv : EvV X.K X.prog X.w (own.map (·.2)) g gm)
    (hg : ∀ s H C cl fp, PG (Blk X scope s H C cl fp) tg g) (ht : ∀ s H C cl fp, GTs (Blk X scope s H C cl fp) ifs mc) (he : ∀ s H C cl fp, GE (Blk X scope s H C cl fp) elt me)
    (hc : X.calm = true) (hu : X.A.units + 64 < cLine) (hN : X.N.Nodup) (ok : BlkOk X.N X.env.scope scope own) (hsw : swapsWith (.SetComp elt [⟨tg, iter, ifs, 0⟩] scope pos) (some (.Name y py)) spos.line X.env = pure true)
    (hy : X.N[i]? = some y := by rfl) (hyl : X.env.scope.names.lookup y = some .local := by rfl) (hs : ∀ x, foldedSetIterable iter X.env x = pure x := by intro _; rfl) :
    GS X (.Assign [.Name y py] (.SetComp elt [⟨tg, iter, ifs, 0⟩] scope pos) spos) (sSet i (mSc it (own.map (·.2)) gm mc me)) := by
  obtain ⟨wi, pw, ew⟩ := hi.ex
  refine ⟨tAsg (tFill (fun a => SetTO X.prog X.w a []) wi g (tMT X.prog X.w X.K mc) (putS X (tM X.prog X.w X.K me)) (own.map (·.2))) (gName i),
    ps_setFill (fill_set hu fun s H C cl fp => (he s H C cl fp).pe) (by rw [exec_Assign_Name_used _ _ _ _ hsw]; rfl) hc hN hy hyl pw ok hg (fun s H C cl fp => (ht s H C cl fp).ex) hs, fun ρ o B σ H D e R q => ?_⟩
  unfold sSet at e
  split at e
  · rename_i z hz
    split at e
    · rename_i hn
      cases e
      exact ev_sc ew hv ρ z B σ H _ hz R fun v H1 e1 r1 => q _ H1 (R.set e1 r1.1 r1.2 hn)
    · cases e
  · cases e
end
end DL
set_option Elab.async false
set_option linter.all false
set_option maxRecDepth 100000
set_option maxHeartbeats 4000000
/-! DLw: stars, constants, two-fold list comprehensions. -/
namespace DL
open PySem PySem.Spec PyProof.Rows L2
section
variable {X : Cx} {e : Expr} {es : List Expr} {m : M W} {ml : M (List W)} {pos : Pos}
/-- what no run reaches -/
theorem ge_never : GE X e mNone := ⟨fun _ _ _ => False, ⟨fun pins s σ H Q I h => h.elim⟩, fun ρ x B σ H Q e R q => by
  unfold mNone at e
  cases e⟩
theorem gs_drop (h : GE X e m) (hs : swapsWith e none pos.line X.env = pure false := by rfl) : GS X (.Expr e pos) (sDrop m) := by
  obtain ⟨t, p, ev⟩ := h.ex
  refine ⟨_, ps_expr p hs, fun ρ o B σ H D e R q => ?_⟩
  unfold sDrop at e
  split at e
  · rename_i x hx
    cases e
    exact ev ρ x B σ H _ hx R fun v H1 e1 _ => q σ H1 (R.mono e1)
  · cases e
theorem repWs_app {P : Program} {w : World} {K : PySem.W.Frag} {H : Hp} : ∀ {ds : List D} {xs : List V} {ws : List W} {vs : List V}, RepA K H ds xs → RepWs P w K H ws vs → RepWs P w K H (ds.map W.d ++ ws) (xs ++ vs)
  | [], [], ws, vs, _, h => h
  | d :: ds, x :: xs, ws, vs, h1, h2 => by
    simp only [RepA] at h1
    rw [List.map_cons, List.cons_append, List.cons_append]
    simp only [RepWs]
    exact ⟨h1.1, repWs_app h1.2 h2⟩
  | [], _ :: _, _, _, h, _ => by simp only [RepA] at h
  | _ :: _, [], _, _, h, _ => by simp only [RepA] at h
theorem ga_star {p : Pos} (h : GE X e m) (hr : GA X es ml) (hs : starEach (.Starred e p :: es) X.env = (true, eval e X.env) :: starEach es X.env := by rfl) : GA X (.Starred e p :: es) (mStar m ml) := by
  obtain ⟨t, pe, ev⟩ := h.ex
  obtain ⟨tr, pr, er⟩ := hr.ex
  refine ⟨_, StX.pa_star pe pr hs, fun ρ zs B σ H Q e R q => ?_⟩
  have fin : ∀ (x : W) (ds : List D), m ρ = some x → (∀ v H1, RepW X.prog X.w X.K H1 x v → ∃ a xs, v = V.ref a ∧ (SqT X.K H1 a xs ∨ SqL X.K H1 a xs) ∧ RepA X.K H1 ds xs) → ∀ ws, ml ρ = some ws → zs = ds.map W.d ++ ws → StX.tStar X.K t tr σ H Q := fun x ds hx rd ws hw ez => by
    subst ez
    refine ev ρ x B σ H _ hx R fun v H1 e1 r1 => ?_
    obtain ⟨a, xs, ev, h1, h2⟩ := rd v H1 r1.1
    refine ⟨a, xs, ev, h1, er ρ ws B σ H1 _ hw (R.mono e1) fun vs H2 e2 r2 => q _ H2 (e1.trans e2) (repWs_app (RepA.sta e2.sta _ _ h2) r2)⟩
  unfold mStar at e
  split at e
  · rename_i ds hd
    split at e
    · rename_i ws hw
      cases e
      exact fin _ ds hd (fun v H1 r => by
        obtain ⟨a, xs, ev, h1, h2⟩ := rep_tup r
        exact ⟨a, xs, ev, .inl h1, h2⟩) ws hw rfl
    · cases e
  · rename_i ds hd
    split at e
    · rename_i ws hw
      cases e
      exact fin _ ds hd (fun v H1 ⟨a, xs, ev, h1, h2⟩ => ⟨a, xs, ev, .inr (SqL.of h1), h2⟩) ws hw rfl
    · cases e
  · rename_i ds hd
    split at e
    · rename_i ws hw
      cases e
      exact fin _ ds hd (fun v H1 ⟨a, xs, ev, h1, h2⟩ => ⟨a, xs, ev, .inr h1, h2⟩) ws hw rfl
    · cases e
  · cases e
end
/-- a constant of the module -/
structure GlD (K : PySem.W.Frag) (mg : Str → Option Value) (x : Str) (d : D) : Prop where
  ex : ∃ v u, mg x = some u ∧ RelV v u ∧ ∀ H, Rep K H d v
section
variable {X : Cx} {x : Str} {d : D} {pos : Pos}
theorem ge_glD (h : GlD X.K X.mg x d) (hg : Gl X x := by rfl) (hd : (x == ("__debug__" : Str)) = false := by decide) : GE X (.Name x pos) (mC (.d d)) := by
  obtain ⟨v, u, h1, h2, h3⟩ := h.ex
  exact ge_gl hg h1 h2 h3 hd

/-! ### what is walked within a comprehension, a mere name -/
def EvK (X : Cx) (wi : TI) (m : M (List D)) : Prop := ∀ ρ ds B σ H Hb R, m ρ = some ds → REX X B ρ σ Hb → Ex Hb H → (∀ J xs, RepA X.K Hb ds xs → Wk J Hb xs → R J H) → wi σ H R
structure GK (X : Cx) (tg e : Expr) (m : M (List D)) : Prop where
  ex : ∃ wi, PI X tg e wi ∧ EvK X wi m
def tMK (P : Program) (w : World) (K : PySem.W.Frag) (m : M (List D)) : TI := fun σ H R => ∃ ρ ds B Hb, m ρ = some ds ∧ RE P w K B ρ σ Hb ∧ Ex Hb H ∧ ∀ J xs, RepA K Hb ds xs → Wk J Hb xs → R J H
theorem GK.pi {tg e : Expr} {m : M (List D)} (h : GK X tg e m) : PI X tg e (tMK X.prog X.w X.K m) := by
  obtain ⟨wi, p, ev⟩ := h.ex
  refine ⟨fun pins s σ H Q I hq => p.run pins s σ H Q I ?_⟩
  obtain ⟨ρ, ds, B, Hb, e, R, ex, q⟩ := hq
  exact ev ρ ds B σ H Hb Q e R ex q
theorem gk_list (i : Nat) {tg : Expr} (hN : X.N[i]? = some x := by rfl) (hv : Vis X.env.scope x := by first | exact Or.inl rfl | exact Or.inr (Or.inl rfl) | exact Or.inr (Or.inr rfl)) (hd : (x == ("__debug__" : Str)) = false := by decide)
    (hcd : (x == ("__classdict__" : Str)) = false := by decide) : GK X tg (.Name x pos) (itLC (mVar i)) := by
  refine ⟨_, pi_list (pe_var hN hv hd hcd), fun ρ ds B σ H Hb R e RR ex q => ?_⟩
  have key : ∃ v, σ[i]? = some (some v) ∧ RepW X.prog X.w X.K Hb (.lst ds) v := by
    unfold itLC mVar at e
    split at e
    · rename_i es he
      split at he
      · cases he
      · rename_i y hn hi
        cases he
        exact absurd rfl (hn _)
      · cases he
    · rename_i es he
      split at he
      · rename_i fs hi
        cases he
        cases e
        obtain ⟨v, h1, h2, _⟩ := RR.get i _ hi
        exact ⟨v, h1, own_lst h2⟩
      · rename_i y hn hi
        cases he
        cases e
        obtain ⟨v, h1, h2, _⟩ := RR.get i _ hi
        exact ⟨v, h1, h2⟩
      · cases he
    · cases e
  obtain ⟨v, h1, a, xs, rfl, h2, h3⟩ := key
  exact ⟨_, h1, a, rfl, ⟨xs, ex.l h2⟩, q _ xs h3 (wk_list h2)⟩
theorem gk_con {ds : List D} {tg : Expr} (h : GlD X.K X.mg x (.tup ds)) (hg : Gl X x := by rfl) (hd : (x == ("__debug__" : Str)) = false := by decide) : GK X tg (.Name x pos) (itT (mC (.d (.tup ds)))) := by
  obtain ⟨v, u, h1, h2, h3⟩ := h.ex
  refine ⟨_, pi_tup (pe_glob hg h1 h2 hd), fun ρ es B σ H Hb R e RR ex q => ?_⟩
  unfold itT mC at e
  cases e
  have r := h3 Hb
  simp only [Rep] at r
  obtain ⟨a, xs, rfl, h4, h5⟩ := r
  exact ⟨a, rfl, ⟨xs, ex.sta.t h4⟩, q _ xs h5 (wk_tup h4)⟩
end

/-! ### two loops -/
section
variable {X : Cx} {mc : M Bool} {me : M W} {B H1 : Hp} {D : Addr}
theorem lc2_inner {i j : Nat} {ρ1 : Env} {σ2 : L2.St} {ds1 ys done : List DL.D} {xs1 acc0 : List V} {H4 : Hp} {J1 : It} {Nx : Hp → Prop} (R1 : REX X B ρ1 σ2 H1) (e0 : Ex H1 H4) (rA : RepA X.K H1 ds1 xs1) (wk : Wk J1 H1 xs1)
    (eIn : lc2In i j mc me (ρ1.set j none) ds1 = some ys) (hD : H1 D = none) (h4 : H4 D = some (.lst acc0)) (ra : RepA X.K H4 done acc0) (hl : done.length + ys.length ≤ 1000) (fin : ∀ H' acc, Ex H1 H' → H' D = some (.lst acc) → RepA X.K H' (done ++ ys) acc → Nx H') :
    ∃ W1 : Nat → Nat → Hp → Prop, (∃ m, W1 0 m H4) ∧ ∀ k n H, W1 k n H → (J1.stop k H ∧ Nx H) ∨ (J1.go k H ∧ ∃ Nx1 : Hp → Prop, (∀ H', Nx1 H' → ∃ n', n' < n ∧ W1 (k + 1) n' H') ∧ ∀ x H', J1.yld k H x H' → gName j x (wipe σ2 [j]) H' fun σ3 H5 => wipe σ3 [j] = wipe σ2 [j] ∧ tMT X.prog X.w X.K mc σ3 H5 fun b H6 =>
      if b = true then tM X.prog X.w X.K me σ3 H6 fun y H7 => ∃ acc, H7 D = some (.lst acc) ∧ acc.length < sizeLine ∧ Nx1 (upd H7 D (.lst (acc ++ [y]))) else Nx1 H6) := by
  have hlen := repA_len rA
  let Pv : Nat → Hp → Prop := fun k H' => Ex H1 H' ∧ ∃ d2 rest acc, lc2In i j mc me (ρ1.set j none) (ds1.drop k) = some rest ∧ ys = d2 ++ rest ∧ H' D = some (.lst acc) ∧ RepA X.K H' (done ++ d2) acc
  refine ⟨fun k n H' => n = ds1.length - k ∧ k ≤ ds1.length ∧ Pv k H', ⟨ds1.length, by simp, Nat.zero_le _, e0, [], ys, acc0, by rw [List.drop_zero]; exact eIn, rfl, h4, by rw [List.append_nil]; exact ra⟩, ?_⟩
  rintro k n H2 ⟨rfl, hk, e2, d2, rest, acc, f2, ed, hacc, ra2⟩
  by_cases hlt : k < ds1.length
  · refine .inr ⟨wk.go H2 e2 k (by rw [hlen]; exact hlt), Pv (k + 1), fun H' p' => ⟨_, by omega, rfl, hlt, p'⟩, fun x H' y => ?_⟩
    obtain ⟨rfl, hx⟩ := wk.yld H2 e2 k x H' (by rw [hlen]; exact hlt) y
    obtain ⟨x', hx', rx⟩ := repA_get rA (List.getElem?_eq_getElem hlt)
    rw [hx] at hx'
    cases hx'
    rw [List.drop_eq_getElem_cons hlt] at f2
    unfold lc2In at f2
    have R2 : RE X.prog X.w X.K B ((ρ1.set j none).set j (some (.d ds1[k]))) ((wipe σ2 [j]).set j (some x)) H1 := (R1.unset j).setD rx
    refine ⟨by rw [wipe_set_mem List.mem_cons_self, wipe_wipe], ?_⟩
    split at f2
    · rename_i hc
      refine ⟨_, true, B, hc, R2.mono e2, fun H3 e3 => ?_⟩
      dsimp only
      rw [if_pos rfl]
      split at f2
      · rename_i yv hy
        split at f2
        · rename_i zs hzs
          cases f2
          refine ⟨_, _, B, hy, (R2.mono e2).mono e3, fun v H6 e6 r6 => ?_⟩
          have h6 : H6 D = some (.lst acc) := (e3.trans e6).at hacc fun _ z => nomatch z
          have ra6 := RepA.sta (e3.trans e6).sta _ _ ra2
          have st := sta_lst (o := .lst (acc ++ [v])) h6
          have za : acc.length = (done ++ d2).length := (repA_len ra2).symm ▸ rfl
          refine ⟨acc, h6, ?_, ((e2.trans e3).trans e6).mut hD, d2 ++ [yv], zs, acc ++ [v], hzs, by rw [ed, List.append_assoc]; rfl, upd_same, by
            rw [← List.append_assoc]
            exact RepA.sta st _ _ (repA_app ra6 (by simp only [RepA]; exact ⟨r6.1, trivial⟩))⟩
          have z1 := repA_len ra2
          have z2 : ys.length = d2.length + (yv :: zs).length := by rw [ed, List.length_append]
          rw [List.length_append] at z1
          refine Nat.lt_of_le_of_lt (m := 1000) ?_ (by decide)
          omega
        · cases f2
      · cases f2
    · rename_i hc
      refine ⟨_, false, B, hc, R2.mono e2, fun H3 e3 => ?_⟩
      dsimp only
      rw [if_neg Bool.false_ne_true]
      exact ⟨e2.trans e3, d2, rest, acc, f2, ed, e3.at hacc (fun _ z => nomatch z), RepA.sta e3.sta _ _ ra2⟩
    · cases f2
  · have ek : k = ds1.length := by omega
    subst ek
    refine .inl ⟨wk.stop H2 e2 _ (by rw [hlen]; exact Nat.le_refl _), fin H2 acc e2 hacc ?_⟩
    rw [List.drop_length] at f2
    unfold lc2In at f2
    cases f2
    rw [List.append_nil] at ed
    rw [ed]
    exact ra2
theorem mLc2_some {it it1 : M (List DL.D)} {i j : Nat} {ρ : Env} {y : W} (h : mLc2 it i it1 j mc me ρ = some y) : ∃ ds es, it ρ = some ds ∧ lc2Out i j it1 mc me (wip ρ [i, j]) ds = some es ∧ es.length ≤ 1000 ∧ y = .own es := by
  unfold mLc2 at h
  split at h
  · rename_i ds hd
    split at h
    · rename_i es he
      split at h
      · rename_i hl
        cases h
        exact ⟨ds, es, hd, he, Nat.le_of_ble_eq_true hl, rfl⟩
      · cases h
    · cases h
  · cases h
theorem ev_lc2 {wi : TI} {it it1 : M (List DL.D)} {i j : Nat} (ew : EvC X wi it) : EvE X (tLc2 wi (gName i) (tMT X.prog X.w X.K mYes) (tMK X.prog X.w X.K it1) (gName j) (tMT X.prog X.w X.K mc) (tM X.prog X.w X.K me) [i, j] [j]) (mLc2 it i it1 j mc me) := fun ρ y B σ H Q e R q => by
  obtain ⟨ds, es, h1, h2, h3, rfl⟩ := mLc2_some e
  refine ew ρ ds B σ H _ h1 R fun J H1 xs e1 rA wk D hD => ?_
  have hlen := repA_len rA
  have R1 := (R.mono e1).wip [i, j]
  let Pv : Nat → Hp → Prop := fun k H' => Ex H1 H' ∧ ∃ done rest acc, lc2Out i j it1 mc me (wip ρ [i, j]) (ds.drop k) = some rest ∧ es = done ++ rest ∧ H' D = some (.lst acc) ∧ RepA X.K H' done acc
  refine ⟨fun k n H' => n = ds.length - k ∧ k ≤ ds.length ∧ Pv k H', ⟨ds.length, by simp, Nat.zero_le _, Ex.new hD, [], es, [], by rw [List.drop_zero]; exact h2, rfl, upd_same, by simp only [RepA]⟩, ?_⟩
  rintro k n H2 ⟨rfl, hk, e2, done, rest, acc, f2, ed, hacc, ra⟩
  by_cases hlt : k < ds.length
  · refine .inr ⟨wk.go H2 e2 k (by rw [hlen]; exact hlt), Pv (k + 1), fun H' p' => ⟨_, by omega, rfl, hlt, p'⟩, fun x H' y => ?_⟩
    obtain ⟨rfl, hx⟩ := wk.yld H2 e2 k x H' (by rw [hlen]; exact hlt) y
    obtain ⟨x', hx', rx⟩ := repA_get rA (List.getElem?_eq_getElem hlt)
    rw [hx] at hx'
    cases hx'
    rw [List.drop_eq_getElem_cons hlt] at f2
    unfold lc2Out at f2
    have R2 : RE X.prog X.w X.K B ((wip ρ [i, j]).set i (some (.d ds[k]))) ((wipe σ [i, j]).set i (some x)) H1 := R1.setD rx
    refine ⟨by rw [wipe_set_mem List.mem_cons_self, wipe_wipe], _, true, B, rfl, R2.mono e2, fun H3 e3 => ?_⟩
    dsimp only
    rw [if_pos rfl]
    split at f2
    · rename_i ds1 hd1
      split at f2
      · rename_i ys hys
        split at f2
        · rename_i zs hzs
          cases f2
          refine ⟨_, ds1, B, H1, hd1, R2, e2.trans e3, fun J1 xs1 rA1 wk1 => ?_⟩
          refine lc2_inner R2 (e2.trans e3) rA1 wk1 hys hD (e3.at hacc fun _ z => nomatch z) (RepA.sta e3.sta _ _ ra) ?_ fun H' acc' e' ha' ra' => ⟨e', done ++ ys, zs, acc', hzs, by rw [ed, List.append_assoc], ha', ra'⟩
          have z : es.length = done.length + (ys ++ zs).length := by rw [ed, List.length_append]
          rw [List.length_append] at z
          omega
        · cases f2
      · cases f2
    · cases f2
  · have ek : k = ds.length := by omega
    subst ek
    refine .inl ⟨wk.stop H2 e2 _ (by rw [hlen]; exact Nat.le_refl _), q _ H2 (e1.trans e2) ?_⟩
    rw [List.drop_length] at f2
    unfold lc2Out at f2
    cases f2
    rw [List.append_nil] at ed
    rw [ed]
    exact ⟨⟨D, acc, rfl, hacc, ra⟩, fun a z => by cases z; exact e1.back hD⟩
theorem ge_lc2 (i j : Nat) {elt tg iter tg1 iter1 : Expr} {ifs1 : List Expr} {scope : Scope} {y1 y2 : Str} {pos : Pos} {it it1 : M (List DL.D)} (hi : GC X tg iter it) (hg : ∀ s H C cl fp, PG (Blk X scope s H C cl fp) tg (gName i)) (hi1 : ∀ s H C cl fp, GK (Blk X scope s H C cl fp) tg1 iter1 it1) (hg1 : ∀ s H C cl fp, PG (Blk X scope s H C cl fp) tg1 (gName j))
    (ht1 : ∀ s H C cl fp, GTs (Blk X scope s H C cl fp) ifs1 mc) (he : ∀ s H C cl fp, GE (Blk X scope s H C cl fp) elt me)
    (hc : X.calm = true) (hN : X.N.Nodup) (ok : BlkOk X.N X.env.scope scope [(y1, i), (y2, j)]) (hs : ∀ x, foldedSetIterable iter X.env x = pure x := by intro _; rfl) (hs1 : ∀ env x, foldedSetIterable iter1 env x = pure x := by intro _ _; rfl) :
    GE X (.ListComp elt [⟨tg, iter, [], 0⟩, ⟨tg1, iter1, ifs1, 0⟩] scope pos) (mLc2 it i it1 j mc me) := by
  obtain ⟨wi, pw, ew⟩ := hi.ex
  exact ⟨_, pe_lc2 (own := [(y1, i), (y2, j)]) (vs1 := [j]) hc hN pw ok (fun k hk => by simp at hk ⊢; exact .inr hk) hg (fun s H C cl fp => gts_nil.ex) (fun s H C cl fp => (hi1 s H C cl fp).pi) hg1 (fun s H C cl fp => (ht1 s H C cl fp).ex) (fun s H C cl fp => (he s H C cl fp).pe) hs hs1, ev_lc2 ew⟩
end
end DL
set_option Elab.async false
set_option linter.all false
set_option maxRecDepth 100000
set_option maxHeartbeats 4000000
/-! DLx: next(.. for .. if .., None). -/
namespace DL
open PySem PySem.Spec PyProof.Rows L2 GenW
/-- the generator's frame -/
abbrev gEnv (X : Cx) (scope : Scope) (C : Addr) (code : Value) : PySem.Env := genEnv scope (cloFrom X.env.cells scope.names []) C code builtinsNs X.env
abbrev gx (X : Cx) (A : Around) (s : Shared) (H : Hp) (scope : Scope) (C : Addr) (code : Value) (fp : List Addr) : Cx :=
  { X with A := A.deeper (gEnv X scope C code), s_0 := s, H_0 := H, env := gEnv X scope C code, outer := X.stack, stack := gEnv X scope C code :: X.stack, ex := fp, fn := fun x => scope.names.lookup x == some .cell, pn := [], xe := fun _ _ => False, calm := true }
section
variable {X : Cx} {pins : List (Addr × Obj)} {σ : L2.St} {H : Hp} {s : Shared}
theorem gen_start {scope : Scope} {own : List (Str × Nat)} {fp : List Addr} {A : Around} {code : Value} {h5 : Heap} {m : Str → Option Value} {G : Array GenState} {tk : Nat} (I : Inv X pins σ H s) (ok : BlkOk X.N X.env.scope scope own) (nd : X.N.Nodup) (noc : ∀ y ∈ scope.names, y.2 ≠ .cell)
    (hfp : ∀ b ∈ fp, FpOk X pins H b ∧ b < s.heap.objs.size) (hA : A.handled = none) (hfr : A.frames = some X.stack) (hn : h5.Ns s.heap.objs.size m) (kp : ∀ b o, s.heap.get? b = some o → h5.get? b = some o) (hG : AllBare G) :
    Inv (gx X A s H scope s.heap.objs.size code fp) [] (wipe σ (own.map (·.2))) H { s with heap := h5, gens := G, toks := tk } := by
  have hfree : ∀ y ∈ scope.names, y.2 = .free → ∃ c, X.env.cells.lookup y.1 = some c := fun y hy e => (ok.free y hy e).elim (fun z => I.ok.has _ (.inl z)) (fun z => I.ok.has _ (.inr z))
  have cm : ∀ {y c}, (cloFrom X.env.cells scope.names []).lookup y = some c → X.env.cells.lookup y = some c := fun {y c} e => by
    rcases cloFrom_mem (PySem.mem_of_lookup e) with hm | ⟨h1, rfl⟩
    · cases hm
    · obtain ⟨c, hc⟩ := hfree _ h1 rfl
      rw [hc]
      rfl
  have back : ∀ {y}, scope.names.lookup y = some .free → ∃ c, (cloFrom X.env.cells scope.names []).lookup y = some c := fun {y} e =>
    have ⟨c, h⟩ := mem_lookup (cloFrom_has (cells := X.env.cells) (acc := []) (PySem.mem_of_lookup e))
    ⟨c, h⟩
  have okG : (gx X A s H scope s.heap.objs.size code fp).Ok := by
    refine ⟨I.ok.mod, ok.kind, I.ok.glob, rfl, Nat.le_refl _, fun y z c e1 e2 => I.ok.inj y z c (cm e1) (cm e2), fun y hy => ?_, fun y c z _ => ?_, fun _ => hA, Around.frames_deeper hfr, .inr ⟨rfl, rfl⟩, fun b hb => ⟨Nat.ne_of_lt (hfp b hb).2, fun y c e z => ?_⟩, I.bs,
      Nat.le_trans I.ok.bsz I.sz, fun b o e hb => ?_, fun b hb z => ?_, I.stack, I.stkFree⟩
    · have hy : scope.names.lookup y = some .cell ∨ scope.names.lookup y = some .free := hy
      rcases hy with hy | hy
      · exact absurd rfl (noc _ (PySem.mem_of_lookup hy))
      · exact back hy
    · have z : (scope.names.lookup y == some NameKind.cell) = true := z
      have z : scope.names.lookup y = some .cell := by simpa using z
      exact absurd rfl (noc _ (PySem.mem_of_lookup z))
    · exact (hfp b hb).1.2.2.2.2.1 y c (cm e) z
    · rcases (hfp b hb).1.2.2.2.1 with z | z
      · exact I.ok.noex b o e z
      · exact Nat.lt_irrefl _ (Nat.lt_of_lt_of_le (Heap.lt_size e) (Nat.le_trans I.ok.bsz z))
    · rcases List.mem_cons.mp (I.stkSub b z) with z | z
      · exact (hfp b hb).1.2.1 z
      · exact (hfp b hb).1.2.2.1 z
  refine ⟨okG, rfl, hG, Un.kept kp, ⟨m, hn, fun i y v e1 e2 e3 => ?_⟩, fun y c e => ?_, I.hok.fresh (Nat.le_refl _), fun y c e => I.freeC y c (cm e), fun p hp => by simp at hp, I.hok.kept kp, by rw [wipe_length]; exact I.len⟩
  · obtain ⟨e2, ne⟩ := wipe_some e2
    have fr : scope.names.lookup y = some .free := by
      have notown : ∀ k, scope.names.lookup y = some k → k = .local ∨ k = .cell → False := fun k hk hk2 => by
        rcases ok.own _ (PySem.mem_of_lookup hk) hk2 with z | z
        · obtain ⟨p, hp, ep⟩ := List.mem_map.mp z
          have e4 := ok.ix p hp
          rw [ep] at e4
          have lt1 := (List.getElem?_eq_some_iff.mp e1).1
          have e5 : i = p.2 := (List.getElem?_inj lt1 nd).mp (e1.trans e4.symm)
          exact ne (List.mem_map.mpr ⟨p, hp, e5.symm⟩)
        · exact z (List.mem_of_getElem? e1)
      rcases e3 with h | h | h
      · exact (notown _ h (.inl rfl)).elim
      · exact (notown _ h (.inr rfl)).elim
      · exact h
    obtain ⟨m0, hn0, hl⟩ := I.loc
    have vis : X.env.scope.names.lookup y = some .cell ∨ X.env.scope.names.lookup y = some .free := ok.free _ (PySem.mem_of_lookup fr) rfl
    obtain ⟨u, ru, lk⟩ := hl i y v e1 e2 (vis.elim (fun z => .inr (.inl z)) fun z => .inr (.inr z))
    refine ⟨u, ru, .inr ⟨.inr fr, ?_⟩⟩
    rcases lk with ⟨h1, _⟩ | ⟨_, c, h2, h3⟩
    · have h1 : X.env.scope.names.lookup y = some .local := h1
      rcases vis with z | z
      · rw [h1] at z
        cases z
      · rw [h1] at z
        cases z
    · obtain ⟨c', hc'⟩ := back fr
      have e6 := cm hc'
      rw [h2] at e6
      cases e6
      exact ⟨c, hc', h3.keeps kp⟩
  · obtain ⟨v, hv⟩ := I.cell y c (cm e)
    exact ⟨v, hv.keeps kp⟩
end

/-! ### one waking -/
theorem over_gen {A : Around} {elt : Expr} {cs : List Comprehension} {scope : Scope} {pos : Pos} {it acc : Value} {ce : PySem.Env} : A.over (.compLoop (.GeneratorExp elt cs scope pos) 0 it acc ce) [] = A.deeper ce := by
  first
    | rfl
    | (obtain ⟨hd, d, fr, gs, u⟩ := A; simp [Around.over, Around.deeper, marksOver, frameCount, unitsOf, envsOf, guardsOf, pushEnvs, pushGuards, Code.envs, Code.env?, Code.isFrame, Code.guards, Code.isGuard, Code.weight, Code.frames, Code.isCreation, Code.isCaller, Code.cUnits])
theorem over_gen0 {A : Around} {elt : Expr} {cs : List Comprehension} {scope : Scope} {pos : Pos} {it acc : Value} {ce : PySem.Env} : A.over (.compStart (.GeneratorExp elt cs scope pos) 0 it acc ce) [] = A.deeper ce := by
  first
    | rfl
    | (obtain ⟨hd, d, fr, gs, u⟩ := A; simp [Around.over, Around.deeper, marksOver, frameCount, unitsOf, envsOf, guardsOf, pushEnvs, pushGuards, Code.envs, Code.env?, Code.isFrame, Code.guards, Code.isGuard, Code.weight, Code.frames, Code.isCreation, Code.isCaller, Code.cUnits])
def gR (F : Shared → Prop) : GenEnd := fun _ _ r s1 => ((r = .ok (.ret .none) ∨ r = .ok .next) ∧ F s1) ∨ ∃ e, r = .error e ∧ False
def gY (F : Value → Shared → Prop) : Protocol := fun _ _ v s _ => F v s
/-- the first that passes, or None -/
def tNext (P : Addr) (wi : TI) (g : TG) (tt : TT) (te : TE) (vs : List Nat) : TE := fun σ H Q => wi σ H fun J H1 => GxR.TabG H1 P ∧ ∀ H2, GxR.Tabbed P H1 H2 → ∃ W : Nat → Nat → Hp → Prop, (∃ m, W 0 m H2) ∧ ∀ i m H, W i m H →
  (J.stop i H ∧ Q .non H) ∨ (J.go i H ∧ ∃ Nx : Hp → Prop, (∀ H', Nx H' → ∃ m', m' < m ∧ W (i + 1) m' H') ∧ ∀ x H', J.yld i H x H' → g x (wipe σ vs) H' fun σ2 H3 => wipe σ2 vs = wipe σ vs ∧ tt σ2 H3 fun b H4 => if b = true then te σ2 H4 Q else Nx H4)
section
variable {X Y : Cx} {elt tg iter : Expr} {ifs : List Expr} {scope : Scope} {pos : Pos} {it : Addr} {fp : List Addr} {tn : Nat → Heap → Prop} {J : It} {g : TG} {tt : TT} {te : TE} {vs : List Nat} {σ : L2.St} {Q : VK} {A : Around}
/-- the loop runs to the first that passes -/
theorem seg_first {W : Nat → Nat → Hp → Prop} (hY : Y.A = A.deeper Y.env) (calm : Y.calm = true) (hx : Y.xe = fun _ _ => False) (hex : Y.ex = fp) (hpn : Y.pn = []) (T : Turn Y.prog Y.w Y.K tg J fp it tn) (ptg : PG Y tg g) (pif : PTs Y ifs tt) (pel : PE Y elt te) (hco : Y.env.scope.isCoroutine = false)
    (turn : ∀ i m H, W i m H → (J.stop i H ∧ Q .non H) ∨ (J.go i H ∧ ∃ Nx : Hp → Prop, (∀ H', Nx H' → ∃ m', m' < m ∧ W (i + 1) m' H') ∧ ∀ x H', J.yld i H x H' → g x (wipe σ vs) H' fun σ2 H3 => wipe σ2 vs = wipe σ vs ∧ tt σ2 H3 fun b H4 => if b = true then te σ2 H4 Q else Nx H4))
    (FN : Shared → Prop) (FV : Value → Shared → Prop) (hN : ∀ H' s', Inv Y [] (wipe σ vs) H' s' → Q .non H' → FN s') (hV : ∀ x v σ' H' pins s', Inv Y pins σ' H' s' → RelV x v → Q x H' → FV v s') (s0 : Shared) :
    ∀ (m i : Nat) (H5 : Hp) (s5 : Shared), W i m H5 → Inv Y [] (wipe σ vs) H5 s5 → tn i s5.heap → (∀ b ∈ fp, H5 b = none) →
      Seg (model Y.prog Y.w) A (gR FN) (gY FV) 1 s0 (.compLoop (.GeneratorExp elt [⟨tg, iter, ifs, 0⟩] scope pos) 0 (.ref it) .none Y.env) ((model Y.prog Y.w).den (.compLoop (.GeneratorExp elt [⟨tg, iter, ifs, 0⟩] scope pos) 0 (.ref it) .none Y.env)) [] s5 := by
  have idle : ∀ {σ' : L2.St} {H' : Hp} {s' : Shared}, Inv Y [] σ' H' s' → (∀ b ∈ fp, H' b = none) → ∀ b ∈ fp, FpOk Y [] H' b := fun {σ' H' s'} K hn b hb => by
    have hb' : b ∈ Y.ex := by rw [hex]; exact hb
    exact ⟨hn b hb, (K.ok.exf b hb').1, K.ok.exfs b hb', .inl hb', (K.ok.exf b hb').2, fun p hp => by rw [hpn] at hp; simp at hp⟩
  have ov : A.over (.compLoop (.GeneratorExp elt [⟨tg, iter, ifs, 0⟩] scope pos) 0 (.ref it) .none Y.env) [] = Y.A := by rw [hY]; exact over_gen
  have falseE : ∀ {α : Type} {t : Sem α} {Q1 Q2 : α → Shared → Prop} {E : Value → Shared → Prop} {s : Shared}, wpAny (model Y.prog Y.w) Y.A t Q1 Y.xe s → (∀ a s, Q1 a s → Q2 a s) → wpAny (model Y.prog Y.w) Y.A t Q2 E s := fun {α t Q1 Q2 E s} h k => by
    rw [hx] at h
    exact thnF h k
  intro m
  induction m using Nat.strongRecOn with
  | ind m ih =>
    intro i H5 s5 w5 I5 st5 n5
    show Seg _ A _ _ _ s0 _ ((compTurn (.GeneratorExp elt [⟨tg, iter, ifs, 0⟩] scope pos) 0 (.ref it) .none Y.env).onRaise (leaving Y.env)) [] s5
    rw [compTurn_gen, Sem.onRaise_eq_wrap]
    refine seg_bind_wrap (wpAny_standAt ?_)
    rcases turn i m H5 w5 with ⟨stop, qq⟩ | ⟨go, Nx, hNx, step⟩
    · refine seg_bind_wrap ?_
      rw [ov]
      refine thnF (T.done Y rfl rfl rfl calm i [] s5 _ H5 (fun _ _ => False) I5 (idle I5 n5) st5 stop) fun r t6 ⟨hr, I6⟩ => ?_
      subst hr
      exact seg_end (.ok .next) (.inl ⟨.inr rfl, hN H5 t6 I6 qq⟩)
    · refine seg_bind_wrap ?_
      rw [ov]
      refine thnF (T.item Y rfl rfl rfl calm i [] s5 _ H5 (fun _ _ => False) I5 (idle I5 n5) st5 go) fun r t6 ⟨u, hr, h6⟩ => ?_
      subst hr
      refine seg_bind_wrap ?_
      rw [ov]
      refine thnF h6 fun _ t7 ⟨x, H7, I7, r7, y7, st7, n7⟩ => ?_
      refine seg_bind_wrap ?_
      rw [ov]
      refine falseE (ptg.run _ t7 _ H7 x u _ (I7.pinned (idle I7 n7) (T.obj _ _ st7)) r7 (step x H7 y7)) fun _ t8 ⟨σ8, H8, I8, hw8, q8⟩ => ?_
      refine seg_bind_wrap ?_
      rw [ov]
      refine falseE (pif.run _ t8 σ8 H8 _ I8 q8) fun b t9 ⟨H9, I9, q9⟩ => ?_
      cases b with
      | false =>
        rw [if_neg Bool.false_ne_true] at q9
        simp only [Bool.false_eq_true, if_false]
        obtain ⟨m', lt, w'⟩ := hNx H9 q9
        have pinned : ∀ b ∈ fp, ∀ o, t7.heap.get? b = some o → t9.heap.get? b = some o ∧ H9 b = none := fun b hb o eo =>
          have z := I9.pin (b, o) (List.mem_append_right _ (List.mem_append_right _ (mem_pinsAt hb eo)))
          ⟨z.1, z.2.1⟩
        refine seg_again rfl (ih m' lt (i + 1) H9 t9 w' ((I9.unpinned (pins := [])).weak (by rw [← hw8, wipe_length]) fun j v ej => ?_) (T.keep _ _ _ st7 fun b hb o eo => (pinned b hb o eo).1) fun b hb => ?_)
        · rw [← hw8] at ej
          exact (wipe_some ej).1
        · obtain ⟨o, eo, _⟩ := T.obj _ _ st7 b hb
          exact (pinned b hb o eo).2
      | true =>
        rw [if_pos rfl] at q9
        have hy : ∀ v, yieldOut Y.env v = yieldValue v := fun v => by simp only [yieldOut, hco, Bool.false_eq_true, if_false]
        simp only [if_true, hy]
        rw [Sem.bind_eq_wrap', Sem.bind_eq_wrap', Sem.wrap_wrap, Sem.wrap_wrap]
        refine seg_wrap ?_
        rw [ov]
        refine falseE (pel.run _ t9 σ8 H9 _ I9 q9) fun v t10 ⟨y, H10, I10, r10, q10⟩ => ?_
        exact seg_at (seg_yield rfl rfl rfl (hV y v σ8 H10 _ t10 I10 r10 q10))
theorem seg_fresh {elt tg iter : Expr} {ifs : List Expr} (hY : Y.A = A.deeper Y.env) (T : Turn Y.prog Y.w Y.K tg J fp it tn) (R : GenEnd) (Pr : Protocol) (s0 s5 : Shared) (st : tn 0 s5.heap)
    (h : Seg (model Y.prog Y.w) A R Pr 1 s0 (.compLoop (.GeneratorExp elt [⟨tg, iter, ifs, 0⟩] scope pos) 0 (.ref it) .none Y.env) ((model Y.prog Y.w).den (.compLoop (.GeneratorExp elt [⟨tg, iter, ifs, 0⟩] scope pos) 0 (.ref it) .none Y.env)) [] s5) :
    Seg (model Y.prog Y.w) A R Pr 1 s0 (.compStart (.GeneratorExp elt [⟨tg, iter, ifs, 0⟩] scope pos) 0 (.ref it) .none Y.env) ((model Y.prog Y.w).den (.compStart (.GeneratorExp elt [⟨tg, iter, ifs, 0⟩] scope pos) 0 (.ref it) .none Y.env)) [] s5 := by
  show Seg _ A _ _ _ s0 _ ((compStart (.GeneratorExp elt [⟨tg, iter, ifs, 0⟩] scope pos) 0 (.ref it) .none Y.env).onRaise (leaving Y.env)) [] s5
  unfold compStart
  rw [Sem.onRaise_eq_wrap]
  show Seg _ A _ _ _ s0 _ ((ask >>= _).wrap _ _ _ _) [] s5
  refine seg_bind_wrap (wpAny_askSetting ?_)
  split
  · exact seg_again rfl h
  · refine seg_bind_wrap (wpAny_rule ?_)
    first
      | exact seg_bind_wrap (wpAny_standAt (seg_bind_wrap (T.self _ 0 _ _ _ st (seg_again rfl h))))
      | (show Seg _ A _ _ _ s0 _ ((standAt iter.pos >>= _).wrap _ _ _ _) [] s5
         exact seg_bind_wrap (wpAny_standAt (seg_bind_wrap (T.self _ 0 _ _ _ st (seg_again rfl h)))))
end
end DL
set_option Elab.async false
set_option linter.all false
set_option maxRecDepth 100000
set_option maxHeartbeats 4000000
/-! DLy: next(.. for .. if .., None), read. -/
namespace DL
open PySem PySem.Spec PyProof.Rows L2 GenW
section
variable {X : Cx} {pins : List (Addr × Obj)} {σ : L2.St} {H : Hp} {s : Shared}
/-- objects, generators more -/
theorem inv_gens (I : Inv X pins σ H s) {h' : Heap} {G : Array GenState} {tk : Nat} (kp : ∀ b o, s.heap.get? b = some o → h'.get? b = some o) (hG : AllBare G) : Inv X pins σ H { s with heap := h', gens := G, toks := tk } :=
  I.call' (ch := []) rfl (Un.kept kp) (I.hok.kept kp) hG fun b hb => by simp at hb
theorem next_gen {a : Addr} {g : Nat} {c : Code} {A : Around} {E : Value → Shared → Prop} {Q : Value → Shared → Prop} {dflt : Value} {FN : Shared → Prop} {FV : Value → Shared → Prop} (hh : A.handled = none) (lim : s.heap.NoLimit) (room : A.in1.depth < recursionLimit) (hg : s.heap.IsGen a g)
    (hgs : s.gens[g]? = some (.fresh c)) (hgo : Seg (model X.prog X.w) A.in1.in1 (gR FN) (gY FV) 1 (s.setGen g .running) c ((model X.prog X.w).den c) [] (s.setGen g .running))
    (hV : ∀ v s1 gs', gs'.bare = true → FV v s1 → Q v (s1.setGen g gs')) (hN : ∀ s1 h', FN s1 → (∀ b o, s1.heap.get? b = some o → h'.get? b = some o) → Q dflt { s1.setGen g .finished with heap := h' }) :
    wpAny (model X.prog X.w) A (call (.builtin "next") [.ref a, dflt]) Q E s := by
  refine Calls.call_function_entry (by decide +kernel) (by decide +kernel) PySem.W.kdk_entry_next (PySem.W.kdk_args_next2 _ _) ?_
  unfold Builtin.«next»
  refine wpAny_bind (m := someArgs "next" 1 2 _) (wpAny_of_eq (a := [Value.ref a, dflt]) (by first | rfl | kernel_rfl!) ?_)
  dsimp only
  refine wpAny_bind (wpAny_specialOf (name := Str.ofString "__next__") hg.typeIs slot_gen_next.lookup ?_)
  refine wpAny_ite_split (fun z => absurd z (by decide)) (fun _ => ?_)
  refine wpAny_bind (next_genG (A := A.in1) (n := 1) (F := fun _ _ s1 => FN s1) (Er := fun _ _ => False) (Y := gY FV) hh lim room hg hgs ⟨rfl, hgo⟩ (fun v s1 gs' hb hv => ?_) (fun s1 hf h' k => ?_) fun e s1 z => z.elim)
  · exact wpAny_pure ⟨_, rfl, hV v s1 gs' hb hv⟩
  · exact wpAny_pure ⟨_, rfl, hN s1 h' hf k⟩
end
section
variable {X : Cx} {elt tg iter : Expr} {ifs : List Expr} {scope : Scope} {own : List (Str × Nat)} {p pos gpos cp : Pos} {j : Nat} {wi : TI} {g : TG} {tt : TT} {te : TE} {k : Nat} {c P : Addr}
theorem pe_nextG (hr : Room (k + 3) X.A) (hc : X.calm = true) (nd : X.N.Nodup) (hg : Gl X "next") (hm : X.mg "next" = none) (TB : GxR.TabB X.base X.mg c P) (hcode : X.env.code = .ref c) (hco : scope.isCoroutine = false) (noc : ∀ y ∈ scope.names, y.2 ≠ .cell) (h0 : scope.names.lookup (".0" : Str) = some NameKind.local)
    (pit : PI X tg iter wi) (ok : BlkOk X.N X.env.scope scope own) (ptg : ∀ A s H C code fp, PG (gx X A s H scope C code fp) tg g) (pif : ∀ A s H C code fp, Room k (gx X A s H scope C code fp).A → PTs (gx X A s H scope C code fp) ifs tt) (pel : ∀ A s H C code fp, PE (gx X A s H scope C code fp) elt te)
    (unf : ∀ v, genFold iter X.env v = pure v)
    (he : starEach [.GeneratorExp elt [⟨tg, iter, ifs, 0⟩] scope gpos, .Constant .none j cp] X.env = (false, eval (.GeneratorExp elt [⟨tg, iter, ifs, 0⟩] scope gpos) X.env) :: starEach [.Constant .none j cp] X.env := by rfl)
    (he2 : starEach [.Constant .none j cp] X.env = [(false, eval (.Constant .none j cp) X.env)] := by rfl) (hpl : (backTo pos (starEach [.Constant .none j cp] X.env)).any (·.1) = false := by rfl) :
    PE X (.Call (.Name "next" p) [.GeneratorExp elt [⟨tg, iter, ifs, 0⟩] scope gpos, .Constant .none j cp] [] pos) (tNext P wi g tt te (own.map (·.2))) := by
  refine ⟨fun pins s σ H Q I h => ?_⟩
  have clo := closure_ok (env := X.env) (scope := scope) fun y hy e => (ok.free y hy e).elim (fun z => I.ok.has _ (.inl z)) (fun z => I.ok.has _ (.inr z))
  refine wpAny_Call_Name_kw (ld_blt (u := .builtin "next") I hg hm (by first | rfl | decide +kernel) ?_ (by decide) (by decide))
  refine PyProof.Rows.callWith_builtin1 ?_ he hpl
  rw [he]
  show wpAny _ _ (spliced ((false, eval (.GeneratorExp elt [⟨tg, iter, ifs, 0⟩] scope gpos) X.env) :: backTo pos (starEach [.Constant .none j cp] X.env))) _ _ s
  refine Calls.spliced_cons ?_
  refine wpAny_GeneratorExp_make hco clo noc h0 ok.kind (by have := hr.dp; omega) (thn (pit.run pins s σ H _ I h) fun xv t1 hx => thn hx fun itv t2 h2 => ?_) unf
  obtain ⟨it, fp, tn, J, Hi, rfl, Ii, T, sti, fpi, ⟨ps, hP, hps⟩, q⟩ := h2
  refine ⟨Ii.nolimit, ?_⟩
  have oP : t2.heap.get? P = some { cls := .none, data := .fields ps } := Ii.hok P _ hP
  have cd : PySem.W.CodeHd t2.heap c P := TB.code.keeps fun b u e => Ii.bk b u e
  have nP : ∀ b, Hi b = none → b ≠ P := fun b e z => by
    rw [z, hP] at e
    cases e
  have go : ∀ (code : Value) (h3 : Heap) (tk : Nat) (more : Array Value), Heap.ExtBut P t2.heap h3 → t2.heap.objs.size ≤ h3.objs.size → h3.get? P = some { cls := .none, data := .fields (ps ++ more) } → TriplesOk (ps ++ more).toList →
      wpAny (model X.prog X.w) X.A (builtinsFor X.env.globals X.env.builtins) (fun bi s4 => ∀ h', h'.Ns s4.heap.objs.size (fun y => if y = ".0" then some (.ref it) else none) → Heap.SameBut s4.heap.objs.size (s4.heap.push { cls := .type "frame", data := .dict #[] }) h' →
        wpAny (model X.prog X.w) X.A (spliced (backTo pos (starEach [.Constant .none j cp] X.env))) (fun vs s1 => wpAny (model X.prog X.w) X.A (call (.builtin "next") (.ref h'.objs.size :: vs)) (EP X pins σ Q) X.xe s1) X.xe { s4 with
            gens := s4.gens.push (.fresh (.compStart (.GeneratorExp elt [⟨tg, iter, ifs, 0⟩] scope gpos) 0 (.ref it) .none (genEnv scope (cloFrom X.env.cells scope.names []) s4.heap.objs.size code bi X.env))),
            toks := s4.toks + 1 + 1 + 1,
            heap := h'.push { cls := .type "generator", data := .fields #[.int s4.gens.size 0, .str "<genexpr>" (s4.toks + 1), .str (X.env.qual ++ "<genexpr>") (s4.toks + 1 + 1)] } }) X.xe { t2 with heap := h3, toks := tk } := by
    intro code h3 tk more hx hsz hP3 ht3
    have K : Inv X pins σ (upd Hi P (.tbl (ps ++ more))) { t2 with heap := h3, toks := tk } := GxR.inv_tab (g' := t2.gens) (d' := t2.drawn) Ii hP (fun b o nb e => hx b o nb e) hP3 Ii.bare
    obtain ⟨W, ⟨m0, w0⟩, turn⟩ := q (upd Hi P (.tbl (ps ++ more))) ⟨⟨_, upd_same, ht3⟩, fun b nb => upd_ne nb⟩
    have lt2 : ∀ b ∈ fp, b < t2.heap.objs.size := fun b hb => by
      obtain ⟨o, eo, _⟩ := T.obj _ _ sti b hb
      exact Heap.lt_size eo
    have hfp : ∀ b ∈ fp, FpOk X pins (upd Hi P (.tbl (ps ++ more))) b ∧ b < h3.objs.size := fun b hb => ⟨⟨by rw [upd_ne (nP b (fpi b hb).1)]; exact (fpi b hb).1, (fpi b hb).2⟩, Nat.lt_of_lt_of_le (lt2 b hb) hsz⟩
    obtain ⟨H2, eH2⟩ : ∃ H2, H2 = upd Hi P (.tbl (ps ++ more)) := ⟨_, rfl⟩
    rw [← eH2] at K w0 hfp
    obtain ⟨bm, ob, e1, e2, e3, e4, e5, e6, e7, e8⟩ := TB.bm
    refine wpAny_builtinsFor (m := X.mg) (by rw [K.ok.glob]; exact K.mod.glob.keeps K.bk) e1 e2 (K.bk _ _ e5) e6 e7 e8 ?_
    intro h' hns sb
    have sz' : h'.objs.size = h3.objs.size + 1 := by rw [sb.1, Heap.size_push]
    have kp' : ∀ b o, h3.get? b = some o → h'.get? b = some o := fun b o e => sb.extBut b o (Nat.ne_of_lt (Heap.lt_size e)) (Heap.get?_push_of_some _ e)
    obtain ⟨go, ego⟩ : ∃ go : Obj, go = { cls := .type "generator", data := .fields #[.int t2.gens.size 0, .str "<genexpr>" (tk + 1), .str (X.env.qual ++ "<genexpr>") (tk + 1 + 1)] } := ⟨_, rfl⟩
    have kp5 : ∀ b o, h3.get? b = some o → (h'.push go).get? b = some o := fun b o e => Heap.get?_push_of_some _ (kp' b o e)
    rw [he2]
    show wpAny _ _ (spliced ((false, eval (.Constant .none j cp) X.env) :: [])) _ _ _
    refine Calls.spliced_cons (Constant_none (k := j) (pos := cp) (Calls.spliced_nil ?_))
    show wpAny _ _ (call (.builtin "next") [.ref h'.objs.size, .none]) _ _ { t2 with gens := t2.gens.push (.fresh (.compStart (.GeneratorExp elt [⟨tg, iter, ifs, 0⟩] scope gpos) 0 (.ref it) .none (gEnv X scope h3.objs.size code))), toks := tk + 1 + 1 + 1, heap := h'.push { cls := .type "generator", data := .fields #[.int t2.gens.size 0, .str "<genexpr>" (tk + 1), .str (X.env.qual ++ "<genexpr>") (tk + 1 + 1)] } }
    have hgo : (h'.push go).IsGen h'.objs.size t2.gens.size := by
      rw [ego]
      exact ⟨_, _, _, Heap.get?_push_size _ rfl, rfl, rfl, rfl⟩
    rw [← ego]
    have bare5 : AllBare (t2.gens.push (.fresh (.compStart (.GeneratorExp elt [⟨tg, iter, ifs, 0⟩] scope gpos) 0 (.ref it) .none (gEnv X scope h3.objs.size code)))) := Ii.bare.push rfl
    have K5 : Inv X pins σ H2 { t2 with heap := h'.push go, gens := t2.gens.push (.fresh (.compStart (.GeneratorExp elt [⟨tg, iter, ifs, 0⟩] scope gpos) 0 (.ref it) .none (gEnv X scope h3.objs.size code))), toks := tk + 1 + 1 + 1 } := inv_gens (s := { t2 with heap := h3, toks := tk }) K kp5 bare5
    have st5 : tn 0 (h'.push go) := T.keep _ _ _ sti fun b hb o e => kp5 b o (hx b o (nP b (fpi b hb).1) e)
    have back : ∀ {pins' : List (Addr × Obj)} {σ' : L2.St} {H' : Hp} {s' : Shared}, Inv (gx X X.A.in1.in1 { t2 with heap := h3, toks := tk } H2 scope h3.objs.size code fp) pins' σ' H' s' → Inv X pins σ H' s' := fun {pins' σ' H' s'} L =>
      K.call' (ch := fp) L.os L.base L.hok L.bare fun b hb => have z := (hfp b hb).1; ⟨z.2.2.2.1, z.2.1, z.2.2.2.2.1, z.2.2.2.2.2⟩
    refine next_gen (X := X) (A := X.A) (g := t2.gens.size) (FN := fun s' => ∃ H', Inv X pins σ H' s' ∧ Q .non H') (FV := fun v s' => ∃ x H', Inv X pins σ H' s' ∧ RelV x v ∧ Q x H') (I.ok.hd hc) K5.nolimit hr.in1.depth hgo (Array.getElem?_push_size ..) ?_
      (fun v s1 gs' hb ⟨x, H', L, r, qq⟩ => ⟨x, H', inv_gens L (fun _ _ e => e) (allBare_setGen L.bare hb), r, qq⟩) (fun s1 h6 ⟨H', L, qq⟩ kk => ⟨.non, H', inv_gens L kk (allBare_setGen L.bare rfl), rfl, qq⟩)
    have start := gen_start (A := X.A.in1.in1) (code := code) (tk := tk + 1 + 1 + 1) K ok nd noc hfp (I.ok.hd hc) I.ok.frames (hns.push go) kp5 (allBare_setGen (g := t2.gens.size) (x := .running) K5.bare rfl)
    exact seg_fresh (Y := gx X X.A.in1.in1 { t2 with heap := h3, toks := tk } H2 scope h3.objs.size code fp) (A := X.A.in1.in1) rfl T _ _ _ _ st5
      (seg_first (Y := gx X X.A.in1.in1 { t2 with heap := h3, toks := tk } H2 scope h3.objs.size code fp) (A := X.A.in1.in1) rfl rfl rfl rfl rfl T (ptg _ _ _ _ _ _) (pif _ _ _ _ _ _ (hr.in1.in1.deeper _)) (pel _ _ _ _ _ _) hco turn _ _ (fun H' s' L qq => ⟨H', back L, qq⟩) (fun x v σ' H' pins' s' L r qq => ⟨x, H', back L, r, qq⟩) _ m0 0 H2 _ w0 start st5 fun b hb => (hfp b hb).1.1)
  cases hf : codeAmong gpos ps.toList with
  | none =>
    refine wpAny_genexprCodeX hcode (cd.code oP hps) (cd.tab oP) hf fun c' h3 tk hx hge hlt hco' _ htab' _ => ?_
    obtain ⟨o1, vs, f1, tf, fl, tg1, inF, tx, tt1, op, _, _, _, _, _, _, _, _, _, htr, _⟩ := hco'
    exact go _ h3 tk _ hx (Nat.le_trans hge (Nat.le_of_lt hlt)) htab'.2 htr
  | some cv =>
    refine wpAny_genexprCode_hit hcode (cd.code oP hps) hf ?_
    exact go cv t2.heap t2.toks #[] (Heap.ExtBut.refl _ _) (Nat.le_refl _) (by rw [Array.append_empty]; exact oP) (by rw [Array.append_empty]; exact hps)
end
end DL
set_option Elab.async false
set_option linter.all false
set_option maxRecDepth 100000
set_option maxHeartbeats 4000000
/-! DLz: next(..) at the data; defs that hold generator expressions. -/
namespace DL
open PySem PySem.Spec PyProof.Rows L2 GenW
section
variable {X : Cx} {c : M Bool} {it : M (List D)}
theorem ev_next {wi : TI} {P : Addr} {i : Nat} (hP : ∀ H, Tabs X.K H → GxR.TabG H P) (ew : EvC X wi it) : EvE X (tNext P wi (gName i) (tMT X.prog X.w X.K c) (tVar i) [i]) (mNext it i c) := fun ρ y B σ H Q e R q => by
  unfold mNext at e
  split at e
  rename_i hlen0
  have hlen0 : i < ρ.length := Nat.blt_eq.mp hlen0
  split at e
  · rename_i ds hd
    refine ew ρ ds B σ H _ hd R fun J H1 xs e1 rA wk => ⟨hP _ (R.tab.ex e1), fun H2 tb => ?_⟩
    have e2 : Ex H1 H2 := Ex.tabbed (hP _ (R.tab.ex e1)) tb
    have R2 := ((R.mono e1).mono e2).wip [i]
    have hlen := repA_len rA
    refine ⟨fun k n H' => n = ds.length - k ∧ k ≤ ds.length ∧ Ex H2 H' ∧ nextL i c ρ (ds.drop k) = some y, ⟨ds.length, by simp, Nat.zero_le _, Ex.refl _, by rw [List.drop_zero]; exact e⟩, ?_⟩
    rintro k n H3 ⟨rfl, hk, e3, f⟩
    have e13 := e2.trans e3
    by_cases hlt : k < ds.length
    · refine .inr ⟨wk.go H3 e13 k (by rw [hlen]; exact hlt), fun H' => k + 1 ≤ ds.length ∧ Ex H2 H' ∧ nextL i c ρ (ds.drop (k + 1)) = some y, fun H' p' => ⟨_, by omega, rfl, p'⟩, fun x H' y' => ?_⟩
      obtain ⟨rfl, hx⟩ := wk.yld H3 e13 k x H' (by rw [hlen]; exact hlt) y'
      obtain ⟨x', hx', rx⟩ := repA_get rA (List.getElem?_eq_getElem hlt)
      rw [hx] at hx'
      cases hx'
      rw [List.drop_eq_getElem_cons hlt] at f
      unfold nextL at f
      have R3 : RE X.prog X.w X.K B ((wip ρ [i]).set i (some (.d ds[k]))) ((wipe σ [i]).set i (some x)) _ := (R2.mono e3).setD (Rep.sta e13.sta _ _ rx)
      have eρ : (wip ρ [i]).set i (some (.d ds[k])) = ρ.set i (some (.d ds[k])) := by
        show (ρ.set i none).set i _ = _
        rw [List.set_set]
      rw [eρ] at R3
      refine ⟨by rw [wipe_set_mem List.mem_cons_self, wipe_wipe], ?_⟩
      split at f
      · rename_i hc
        cases f
        refine ⟨_, true, B, hc, R3, fun H4 e4 => ?_⟩
        dsimp only
        rw [if_pos rfl]
        obtain ⟨v, h1, h2, _⟩ := (R3.mono e4).get i _ (List.getElem?_set_self hlen0)
        exact ⟨v, h1, q v H4 (((e1.trans e2).trans e3).trans e4) ⟨h2, trivial⟩⟩
      · rename_i hc
        refine ⟨_, false, B, hc, R3, fun H4 e4 => ?_⟩
        dsimp only
        rw [if_neg Bool.false_ne_true]
        exact ⟨hlt, e3.trans e4, f⟩
      · cases f
    · have ek : k = ds.length := by omega
      subst ek
      rw [List.drop_length] at f
      unfold nextL at f
      cases f
      exact .inl ⟨wk.stop H3 e13 _ (by rw [hlen]; exact Nat.le_refl _), q _ H3 ((e1.trans e2).trans e3) ⟨non_rep, trivial⟩⟩
  · cases e
  · cases e
theorem ge_next {x : Str} {iter cond : Expr} {scope : Scope} {p pos gpos cp px px2 : Pos} {j k kk : Nat} {cA P : Addr} (i : Nat) (hr : Room kk X.A) (hle : k + 3 ≤ kk) (hP : ∀ H, Tabs X.K H → GxR.TabG H P) (TB : GxR.TabB X.base X.mg cA P) (hcode : X.env.code = .ref cA) (hc : X.calm = true) (nd : X.N.Nodup) (hm : X.mg "next" = none)
    (hi : ∀ tg, GC X tg iter it) (hcn : ∀ A s H C code fp, Room k (gx X A s H scope C code fp).A → GT (gx X A s H scope C code fp) cond c) (ok : BlkOk X.N X.env.scope scope [(x, i)]) (noc : ∀ y ∈ scope.names, y.2 ≠ .cell) (hN : X.N[i]? = some x) (hl : scope.names.lookup x = some .local)
    (hdb : (x == ("__debug__" : Str)) = false := by decide) (hcd : (x == ("__classdict__" : Str)) = false := by decide) (hco : scope.isCoroutine = false := by rfl) (h0 : scope.names.lookup (".0" : Str) = some NameKind.local := by rfl) (hg : Gl X "next" := by rfl) (unf : ∀ v, genFold iter X.env v = pure v := by intro _; rfl)
    (he : starEach [.GeneratorExp (.Name x px) [⟨.Name x px2, iter, [cond], 0⟩] scope gpos, .Constant .none j cp] X.env = (false, eval (.GeneratorExp (.Name x px) [⟨.Name x px2, iter, [cond], 0⟩] scope gpos) X.env) :: starEach [.Constant .none j cp] X.env := by rfl)
    (he2 : starEach [.Constant .none j cp] X.env = [(false, eval (.Constant .none j cp) X.env)] := by rfl) (hpl : (backTo pos (starEach [.Constant .none j cp] X.env)).any (·.1) = false := by rfl) :
    GE X (.Call (.Name "next" p) [.GeneratorExp (.Name x px) [⟨.Name x px2, iter, [cond], 0⟩] scope gpos, .Constant .none j cp] [] pos) (mNext it i c) := by
  obtain ⟨wi, pw, ew⟩ := (hi (.Name x px2)).ex
  exact ⟨_, pe_nextG (own := [(x, i)]) (k := k) (hr.mono hle) hc nd hg hm TB hcode hco noc h0 pw ok (fun A s H C code fp => pg_name (i := i) nd hN (.inl hl) (.inr hl)) (fun A s H C code fp hr' => pts_one (hcn A s H C code fp hr').pt) (fun A s H C code fp => pe_var hN (.inl hl) hdb hcd) unf he he2 hpl, ev_next hP ew⟩
end
section
variable {P : Program} {w : World} {K : PySem.W.Frag} {mg : Str → Option Value} {base : Heap}
/-- THE RULE for a def whose code object is needed -/
theorem fn_mkC {x qual : Str} {params : Arguments} {body : List Stmt} {scope : Scope} {q : He.Defn} {fd : FuncData} {N ps : List Str} {k n : Nat} {s : M Out} (F : FunD K x qual params body scope [] [] (He.fAd K q) fd) (S : FnScope N ps scope) (hn : ps.length = n)
    (hb : ∀ (kV doc pm : Value) (an : Option Addr) (cdv ct : Value) (us : List Value), us.length = ps.length → bindArgs (PySem.W.fnOf x qual params body scope .none kV doc pm an cdv ct) ⟨us, []⟩ = pure (ps.zip us))
    (hbody : ∀ (A : Around) (outer : List PySem.Env) (s0 : Shared) (H : Hp) (E : XK), Room k (A.deeper (envOfC qual scope s0.heap.objs.size (He.fAd K q) (.ref (He.codeOf K q)))) → GSs (cxOf CX0 P w K mg base N qual scope (He.fAd K q) (.ref (He.codeOf K q)) A outer s0 H E).nox body s) :
    FnR P w K mg base CX0 (k + 1) (He.fAd K q) (SpM P w K n (mFn N.length s)) := by
  have G : FnOk P w K mg base CX0 (k + 1) (He.fAd K q) fd ps (SpM P w K n (mFn N.length s)) := by
    obtain ⟨oc, od, dV, kV, doc, pm, an, cdv, ct, osl, rfl, lk, hcd, _, _⟩ := F.ex
    obtain ⟨c, rfl⟩ := He.codeIn_ref hcd
    have ec : He.codeOf K q = c := He.codeOf_eq lk rfl
    subst ec
    refine fn_of lk hcd S (fun vs H Q E h => by rw [h.1, hn]) fun A outer s0 H vs Q E hr h => ?_
    obtain ⟨hl, tb, ws, r, rep, e, qq⟩ := h
    obtain ⟨t, p, ev⟩ := (hbody A outer s0 H E hr).ex
    have hps : ps.length ≤ N.length := by
      have z := congrArg List.length S.pre
      rw [List.length_take] at z
      omega
    have R := start_re (P := P) (w := w) (K := K) (Ns := N) (by omega) rep tb
    refine ⟨t, p.nox, ?_⟩
    unfold mFn at e
    split at e
    · rename_i y hy
      cases e
      exact ev _ _ H _ H _ hy R fun v H' e1 r1 => qq v H' e1 r1
    · rename_i ρ' hy
      cases e
      exact ev _ _ H _ H _ hy R fun σ' H' R' => qq _ H' R'.ex ⟨non_rep, trivial⟩
    · cases e
  have b : Binds K fd ps [] := F.bindsN hb
  exact (G.raw b .nil).imp fun vs H Q E h => by rw [List.append_nil]; exact h
end
end DL
set_option Elab.async false
set_option linter.all false
set_option maxRecDepth 100000
set_option maxHeartbeats 4000000
/-! DLk: what the head tells, as Bools. -/
namespace DL
open PySem PySem.Spec PyProof.Rows L2
theorem Df.funD {K : PySem.W.Frag} {d : Df} (e : fnA K (plA K d.pl) = d.val) (c : d.ok K = true) : ∃ fd, FunD K d.name d.qual d.params d.body d.scope [] [] (plA K d.pl) fd := by
  obtain ⟨kp, c2⟩ := He.ba c
  unfold fnA at e
  cases q : K.lookup (plA K d.pl) with
  | none =>
    rw [q] at c2
    cases c2
  | some o =>
    obtain ⟨oc, od, dt, osl⟩ := o
    rw [q] at c2 e
    cases dt with
    | func fd =>
      obtain ⟨n1, n2, n3, n4, n5, n6, n7, n8, n9, n10, n11, n12, n13, n14, n15⟩ := fd
      have e2 : (some (n1, n2, n3, n4, n5, n6, n7, n15) : He.FnW) = some (d.name, d.qual, d.params, .stmts d.body, d.scope, mainGlobals, [], builtinsNs) := e
      simp only [Option.some.injEq, Prod.mk.injEq] at e2
      obtain ⟨h1, h2, h3, h4, h5, h6, h7, h8⟩ := e2
      subst h1 h2 h3 h4 h5 h6 h7 h8
      have c3 : (PySem.W.codeIn K n13 d.qual && (He.dflB K n8 [] && He.kwdB K n9 [])) = true := c2
      obtain ⟨k1, k2⟩ := He.ba c3
      obtain ⟨k3, k4⟩ := He.ba k2
      exact ⟨_, ⟨oc, od, n8, n9, n10, n11, n12, n13, n14, osl, rfl, q, k1, He.dflB_ok k3, He.kwdB_ok k4⟩, kp⟩
    | _ => cases c2

/-! ### constants -/
mutual
theorem conB_ok {K : PySem.W.Frag} : ∀ (d : D) (u : Value), conB K d u = true → ∃ v, RelV v u ∧ ∀ H, Rep K H d v
  | .int i, u, h => by
    cases u with
    | int j t =>
      simp only [conB] at h
      have e := of_decide_eq_true h
      subst e
      exact ⟨.int j, ⟨t, rfl⟩, fun H => by simp only [Rep]⟩
    | _ => simp [conB] at h
  | .str x, u, h => by
    cases u with
    | str y t =>
      simp only [conB] at h
      have e := of_decide_eq_true h
      subst e
      exact ⟨.str y, ⟨t, rfl⟩, fun H => by simp only [Rep]⟩
    | _ => simp [conB] at h
  | .bl a, u, h => by
    cases u with
    | bool b =>
      simp only [conB] at h
      have e := of_decide_eq_true h
      subst e
      exact ⟨.bl b, rfl, fun H => by simp only [Rep]⟩
    | _ => simp [conB] at h
  | .non, u, h => by
    cases u with
    | none => exact ⟨.non, rfl, fun H => by simp only [Rep]⟩
    | _ => simp [conB] at h
  | .obj _ _, u, h => by
    simp [conB] at h
  | .tup ds, u, h => by
    cases u with
    | ref a =>
      simp only [conB] at h
      cases q : K.lookup a with
      | none =>
        rw [q] at h
        cases h
      | some o =>
        obtain ⟨oc, od, dt, osl⟩ := o
        rw [q] at h
        cases oc with
        | type c =>
          cases dt with
          | seq its n =>
            obtain ⟨h1, h2⟩ := He.ba (show (decide (c = "tuple") && (decide (its.size ≤ sizeLine) && conA K ds its.toList)) = true from h)
            obtain ⟨h3, h4⟩ := He.ba h2
            obtain ⟨xs, r, hx⟩ := conA_ok ds its.toList h4
            refine ⟨.ref a, rfl, fun H => ?_⟩
            simp only [Rep]
            exact ⟨a, xs, rfl, .inr ⟨_, its, n, q, congrArg Value.type (of_decide_eq_true h1), rfl, of_decide_eq_true h3, r⟩, hx H⟩
          | _ => cases h
        | _ => cases dt <;> cases h
    | _ => simp [conB] at h
theorem conA_ok {K : PySem.W.Frag} : ∀ (ds : List D) (us : List Value), conA K ds us = true → ∃ xs, Vals xs us ∧ ∀ H, RepA K H ds xs
  | [], [], _ => ⟨[], .nil, fun H => by simp only [RepA]⟩
  | d :: ds, u :: us, h => by
    simp only [conA] at h
    obtain ⟨h1, h2⟩ := He.ba h
    obtain ⟨v, r1, k1⟩ := conB_ok d u h1
    obtain ⟨xs, r2, k2⟩ := conA_ok ds us h2
    exact ⟨v :: xs, .cons r1 r2, fun H => by simp only [RepA]; exact ⟨k1 H, k2 H⟩⟩
  | [], _ :: _, h => by simp [conA] at h
  | _ :: _, [], h => by simp [conA] at h
end

/-! ### the facts -/
/-- what is taken from the head -/
structure Told (fs : List Fk) (ds : List Df) (K : PySem.W.Frag) (mg : Str → Option Value) (base : Heap) : Prop where
  kin : K.In base
  ns : base.Ns mainGlobals mg
  fk : ∀ (i : Nat) (f : Fk), fs[i]? = some f → f.ok K = true
  df : ∀ (i : Nat) (d : Df), ds[i]? = some d → ∃ fd, FunD K d.name d.qual d.params d.body d.scope [] [] (plA K d.pl) fd
  tb1 : GxR.TabB base mg (He.cT K ("bar_at", none)).1 (tabA K "bar_at")
  tb2 : GxR.TabB base mg (He.cT K ("first_bar", none)).1 (tabA K "first_bar")
section
variable {fs : List Fk} {ds : List Df} {K : PySem.W.Frag} {mg : Str → Option Value} {base : Heap}
theorem Told.glo (T : Told fs ds K mg base) (i : Nat) {x : Str} (h : fs[i]? = some (.glo x) := by rfl) : mg x = some (.ref (He.ga K x)) := PySem.W.mg_of T.kin T.ns (He.eqO_ok (He.ba (T.fk i _ h)).1)
theorem Told.kpg (T : Told fs ds K mg base) (i : Nat) {x : Str} (h : fs[i]? = some (.glo x) := by rfl) : PySem.W.keepIn K (.ref (He.ga K x)) = true := (He.ba (T.fk i _ h)).2
theorem Told.free (T : Told fs ds K mg base) (i : Nat) {x : Str} (h : fs[i]? = some (.free x) := by rfl) : mg x = none := PySem.W.mg_none_of T.kin T.ns (He.eqO_ok (T.fk i _ h))
theorem Told.blt (T : Told fs ds K mg base) (i : Nat) {x : Str} {id : String} (h : fs[i]? = some (.blt x id) := by rfl) : mg x = some (.builtin id) := PySem.W.mg_of T.kin T.ns (He.eqO_ok (T.fk i _ h))
theorem Told.con (T : Told fs ds K mg base) (i : Nat) {x : Str} {d : D} (h : fs[i]? = some (.con x d) := by rfl) : GlD K mg x d := by
  have z : (match PySem.W.nsIn K mainGlobals x with
    | some (some u) => conB K d u
    | _ => false) = true := T.fk i _ h
  cases q : PySem.W.nsIn K mainGlobals x with
  | none =>
    rw [q] at z
    cases z
  | some o =>
    cases o with
    | none =>
      rw [q] at z
      cases z
    | some u =>
      rw [q] at z
      obtain ⟨v, r, k⟩ := conB_ok d u z
      exact ⟨v, u, PySem.W.mg_of T.kin T.ns q, r, k⟩
theorem Told.cls (T : Told fs ds K mg base) (i : Nat) {c : Cn} (h : fs[i]? = some (.cls c) := by rfl) : ClsF K c := by
  obtain ⟨h1, z⟩ := He.ba (T.fk i _ h)
  obtain ⟨h2, z⟩ := He.ba z
  obtain ⟨h3, z⟩ := He.ba z
  obtain ⟨h4, z⟩ := He.ba z
  obtain ⟨h5, z⟩ := He.ba z
  obtain ⟨h6, z⟩ := He.ba z
  obtain ⟨h7, z⟩ := He.ba z
  obtain ⟨h8, z⟩ := He.ba z
  obtain ⟨h9, z⟩ := He.ba z
  obtain ⟨h10, h11⟩ := He.ba z
  exact ⟨⟨h1, h2, h3, He.eqO_ok h4⟩, ⟨He.eqO_ok h5, He.eqO_ok h6, of_decide_eq_true h7, of_decide_eq_true h8⟩, of_decide_eq_true h9, of_decide_eq_true h10, h11⟩
theorem Told.slot (T : Told fs ds K mg base) (i : Nat) {c : Cn} {f : Str} (h : fs[i]? = some (.slot c f) := by rfl) : SlotF K c f := by
  obtain ⟨h1, z⟩ := He.ba (T.fk i _ h)
  obtain ⟨h2, z⟩ := He.ba z
  obtain ⟨h3, z⟩ := He.ba z
  obtain ⟨h4, h5⟩ := He.ba z
  exact ⟨prA K c f, He.eqO_ok h1, He.eqO_ok h2, of_decide_eq_true h3, of_decide_eq_true h4, of_decide_eq_true h5, by decide⟩
theorem Told.prop {P : Program} {w : World} {k : Nat} {m : List W → Option W} (T : Told fs ds K mg base) (i : Nat) {c : Cn} {f : Str} (F : FnR P w K mg base CX0 k (plA K (.p c f)) (SpM P w K 1 m)) (h : fs[i]? = some (.prop c f) := by rfl) : PropF P w K mg base k c f m := by
  obtain ⟨h1, z⟩ := He.ba (T.fk i _ h)
  obtain ⟨h2, z⟩ := He.ba z
  obtain ⟨h3, h4⟩ := He.ba z
  refine ⟨prA K c f, plA K (.p c f), He.eqO_ok h1, He.eqO_ok h2, of_decide_eq_true h3, ?_, F⟩
  unfold plA
  dsimp only
  split at h4
  · rename_i g r hg
    rw [hg]
    exact ⟨r, rfl⟩
  · cases h4
theorem Told.maker (T : Told fs ds K mg base) (i : Nat) {c : Cn} (h : fs[i]? = some (.mk c) := by rfl) : Mk K (ca K c) (plA K (.m c "__init__")) := by
  obtain ⟨h1, z⟩ := He.ba (T.fk i _ h)
  obtain ⟨h2, z⟩ := He.ba z
  obtain ⟨h3, h4⟩ := He.ba z
  exact ⟨h1, He.eqO_ok h2, h3, h4⟩
theorem Told.meth (T : Told fs ds K mg base) (i : Nat) {c : Cn} {f : Str} (h : fs[i]? = some (.meth c f) := by rfl) : Meth K (ca K c) f (plA K (.m c f)) := by
  obtain ⟨h1, z⟩ := He.ba (T.fk i _ h)
  obtain ⟨h2, h3⟩ := He.ba z
  exact ⟨He.eqO_ok h1, h2, h3⟩
end
end DL
set_option Elab.async false
set_option linter.all false
set_option maxRecDepth 100000
set_option maxHeartbeats 4000000
/-! DLr: expressions and statements at one place: what is wanted before, for what is wanted behind. -/
namespace DL
open PySem PySem.Spec PyProof.Rows L2
def we (X : Cx) (e : Expr) : TE := fun σ H Q => ∃ t, PE X e t ∧ t σ H Q
def wt (X : Cx) (e : Expr) : TT := fun σ H Q => ∃ t, PT X e t ∧ t σ H Q
def ws (X : Cx) (s : Stmt) : TS := fun D σ H => ∃ t, PS X s t ∧ t D σ H
def wss (X : Cx) (s : List Stmt) : TS := fun D σ H => ∃ t, PSs X s t ∧ t D σ H
section
variable {X : Cx} {e a b c : Expr} {st : Stmt} {rest sa sb : List Stmt} {σ : L2.St} {H : Hp} {pos p : Pos}
theorem pe_we : PE X e (we X e) := ⟨fun pins s σ H Q I ⟨t, p, h⟩ => p.run pins s σ H Q I h⟩
theorem pt_wt : PT X e (wt X e) := ⟨fun pins s σ H Q I ⟨t, p, h⟩ => p.run pins s σ H Q I h⟩
theorem ps_ws : PS X st (ws X st) := ⟨fun pins s σ H D I ⟨t, p, h⟩ => p.run pins s σ H D I h⟩
theorem pss_wss : PSs X rest (wss X rest) := ⟨fun pins s σ H D I ⟨t, p, h⟩ => p.run pins s σ H D I h⟩
/-- an int, a truth value, the heap as it was -/
def wi (X : Cx) (e : Expr) (σ : L2.St) (H : Hp) (k : Int) : Prop := ∀ Q : VK, Q (.int k) H → we X e σ H Q
def wb (X : Cx) (e : Expr) (σ : L2.St) (H : Hp) (k : Bool) : Prop := ∀ Q : VK, Q (.bl k) H → we X e σ H Q
theorem wi_of {i j : Int} (h : wi X e σ H i) (e' : i = j) : wi X e σ H j := by
  rw [← e']
  exact h
theorem wi_use {k : Int} {Q : VK} (h : wi X e σ H k) (q : Q (.int k) H) : we X e σ H Q := h Q q
theorem we_var (i : Nat) {x : Str} {v : V} {Q : VK} (hs : σ[i]? = some (some v)) (q : Q v H) (hN : X.N[i]? = some x := by rfl) (hv : Vis X.env.scope x := by first | exact Or.inl rfl | exact Or.inr (Or.inl rfl) | exact Or.inr (Or.inr rfl)) (hd : (x == ("__debug__" : Str)) = false := by decide)
    (hcd : (x == ("__classdict__" : Str)) = false := by decide) : we X (.Name x pos) σ H Q := ⟨_, pe_var hN hv hd hcd, v, hs, q⟩
theorem wi_var (i : Nat) {x : Str} {k : Int} (hs : σ[i]? = some (some (.int k))) (hN : X.N[i]? = some x := by rfl) (hv : Vis X.env.scope x := by first | exact Or.inl rfl | exact Or.inr (Or.inl rfl) | exact Or.inr (Or.inr rfl)) (hd : (x == ("__debug__" : Str)) = false := by decide)
    (hcd : (x == ("__classdict__" : Str)) = false := by decide) : wi X (.Name x pos) σ H k := fun Q q => we_var i hs q hN hv hd hcd
theorem wi_int {k : Int} {j : Nat} : wi X (.Constant (.int k) j pos) σ H k := fun Q q => ⟨_, pe_int, q⟩
theorem wi_add {i j : Int} (ha : wi X a σ H i) (hb : wi X b σ H j) : wi X (.BinOp a .Add b pos) σ H (i + j) := fun Q q => ⟨_, pe_op op_add pe_we pe_we, ha _ (hb _ ⟨i, j, rfl, rfl, q⟩)⟩
theorem wi_sub {i j : Int} (ha : wi X a σ H i) (hb : wi X b σ H j) : wi X (.BinOp a .Sub b pos) σ H (i - j) := fun Q q => ⟨_, pe_op op_sub pe_we pe_we, ha _ (hb _ ⟨i, j, rfl, rfl, q⟩)⟩
theorem wi_mul {i j : Int} (ha : wi X a σ H i) (hb : wi X b σ H j) (hc : CMul i j) : wi X (.BinOp a .Mult b pos) σ H (i * j) := fun Q q => ⟨_, pe_op op_mul pe_we pe_we, ha _ (hb _ ⟨i, j, rfl, rfl, hc, q⟩)⟩
theorem wi_div {i j : Int} (ha : wi X a σ H i) (hb : wi X b σ H j) (hc : 0 < j ∧ j < 1073741824) : wi X (.BinOp a .FloorDiv b pos) σ H (i / j) := fun Q q => ⟨_, pe_op op_fdiv pe_we pe_we, ha _ (hb _ ⟨i, j, rfl, rfl, hc, q⟩)⟩
theorem wi_mod {i j : Int} (ha : wi X a σ H i) (hb : wi X b σ H j) (hc : 0 < j) : wi X (.BinOp a .Mod b pos) σ H (i % j) := fun Q q => ⟨_, pe_op op_mod pe_we pe_we, ha _ (hb _ ⟨i, j, rfl, rfl, hc, q⟩)⟩
theorem wi_pow {i j : Int} (ha : wi X a σ H i) (hb : wi X b σ H j) (hc : CPow i j) : wi X (.BinOp a .Pow b pos) σ H (i ^ j.toNat) := fun Q q => ⟨_, pe_op op_pow pe_we pe_we, ha _ (hb _ ⟨i, j, rfl, rfl, hc, q⟩)⟩
theorem wb_lt {i j : Int} (ha : wi X a σ H i) (hb : wi X b σ H j) : wb X (.Compare a [.Lt] [b] pos) σ H (decide (i < j)) := fun Q q => ⟨_, pe_cmpR op_lt pe_we pe_we (nobehind _ (by decide) (by decide)), ha _ (hb _ ⟨i, j, rfl, rfl, q⟩)⟩
theorem wb_gt {i j : Int} (ha : wi X a σ H i) (hb : wi X b σ H j) : wb X (.Compare a [.Gt] [b] pos) σ H (decide (j < i)) := fun Q q => ⟨_, pe_cmpR op_gt pe_we pe_we (nobehind _ (by decide) (by decide)), ha _ (hb _ ⟨i, j, rfl, rfl, q⟩)⟩
theorem wt_wb {k : Bool} {Q : Bool → Hp → Prop} (h : wb X e σ H k) (q : Q k H) (he : ∀ whole, isTrue e X.env whole = (do let v ← whole; standAt e.pos; holding [v] (truthy v)) := by intro _; rfl) : wt X e σ H Q := ⟨_, pt_val pe_we he, h _ ⟨k, rfl, q⟩⟩
theorem wt_lt {i j : Int} {Q : Bool → Hp → Prop} (ha : wi X a σ H i) (hb : wi X b σ H j) (q : Q (decide (i < j)) H) : wt X (.Compare a [.Lt] [b] pos) σ H Q := ⟨_, pt_cmpR op_lt pe_we pe_we (nobehind _ (by decide) (by decide)), ha _ (hb _ ⟨i, j, rfl, rfl, _, rfl, q⟩)⟩
theorem wt_gt {i j : Int} {Q : Bool → Hp → Prop} (ha : wi X a σ H i) (hb : wi X b σ H j) (q : Q (decide (j < i)) H) : wt X (.Compare a [.Gt] [b] pos) σ H Q := ⟨_, pt_cmpR op_gt pe_we pe_we (nobehind _ (by decide) (by decide)), ha _ (hb _ ⟨i, j, rfl, rfl, _, rfl, q⟩)⟩
theorem op_powN : OpR X (binaryOp .Pow) (rI (fun i j => 0 ≤ j ∧ (Builtin.Int.intBits i : Int) * j ≤ 2 ^ 27) fun i j => .int (i ^ j.toNat)) := opI fun _ _ _ _ _ _ _ hc q => pow_int hc.1 hc.2 q
theorem wi_powN {i j : Int} (ha : wi X a σ H i) (hb : wi X b σ H j) (hc : 0 ≤ j ∧ (Builtin.Int.intBits i : Int) * j ≤ 2 ^ 27) : wi X (.BinOp a .Pow b pos) σ H (i ^ j.toNat) := fun Q q => ⟨_, pe_op op_powN pe_we pe_we, ha _ (hb _ ⟨i, j, rfl, rfl, hc, q⟩)⟩
/-- a list's item -/
theorem wi_ix {q : Addr} {xs : List V} {i k : Int} (ho : ∀ Q : VK, Q (.ref q) H → we X a σ H Q) (hi : wi X b σ H i) (hl : SqL X.K H q xs) (hx : atI xs i = some (.int k)) (hs : PlainIx b := by intro _ _; rfl) : wi X (.Subscript a b pos) σ H k := fun Q r =>
  ⟨_, pe_ix ix_seq pe_we pe_we hs, ho _ (hi _ (.inl ⟨q, xs, i, _, rfl, rfl, hl, hx, r⟩))⟩
theorem wi_if {k : Bool} {i : Int} (hc : ∀ Q : Bool → Hp → Prop, Q k H → wt X c σ H Q) (ha : k = true → wi X a σ H i) (hb : k = false → wi X b σ H i) : wi X (.IfExp c a b pos) σ H i := fun Q q => ⟨_, pe_ifExp pt_wt pe_we pe_we, hc _ (by
  cases k with
  | true =>
    rw [if_pos rfl]
    exact ha rfl _ q
  | false =>
    rw [if_neg Bool.false_ne_true]
    exact hb rfl _ q)⟩
/-! ### calls -/
theorem we_callB {id : String} {x : Str} {r : List V → Hp → VK → Prop} {Q : VK} (hc : CallR X (.builtin id) r) (h : we X a σ H fun v H1 => r [v] H1 Q) (hm : X.mg x = none) (hg : Gl X x := by rfl) (hv : bootBuiltins x = some (.builtin id) := by decide +kernel) (hn : x ≠ "__name__" := by decide) (hdb : (x == ("__debug__" : Str)) = false := by decide)
    (he : starEach [a] X.env = (false, eval a X.env) :: starEach [] X.env := by rfl) : we X (.Call (.Name x p) [a] [] pos) σ H Q := ⟨_, pe_callB hc hg hm hv (pa_cons pe_we pa_nil he) hn hdb he (by rfl), h⟩
theorem we_callB2 {id : String} {x : Str} {r : List V → Hp → VK → Prop} {Q : VK} (hc : CallR X (.builtin id) r) (h : we X a σ H fun v H1 => we X b σ H1 fun u H2 => r [v, u] H2 Q) (hm : X.mg x = none) (hg : Gl X x := by rfl) (hv : bootBuiltins x = some (.builtin id) := by decide +kernel) (hn : x ≠ "__name__" := by decide) (hdb : (x == ("__debug__" : Str)) = false := by decide)
    (he : starEach [a, b] X.env = (false, eval a X.env) :: starEach [b] X.env := by rfl) (he2 : starEach [b] X.env = (false, eval b X.env) :: starEach [] X.env := by rfl) (hpl : (backTo pos (starEach [b] X.env)).any (·.1) = false := by rfl) : we X (.Call (.Name x p) [a, b] [] pos) σ H Q := ⟨_, pe_callB hc hg hm hv (pa_cons pe_we (pa_cons pe_we pa_nil he2) he) hn hdb he hpl, h⟩
theorem we_callT {id : String} {x : Str} {r : List V → Hp → VK → Prop} {Q : VK} (hc : CallR X (.type id) r) (h : we X a σ H fun v H1 => r [v] H1 Q) (hm : X.mg x = none) (hg : Gl X x := by rfl) (hv : bootBuiltins x = some (.type id) := by decide +kernel) (hn : x ≠ "__name__" := by decide) (hdb : (x == ("__debug__" : Str)) = false := by decide)
    (he : starEach [a] X.env = (false, eval a X.env) :: starEach [] X.env := by rfl) : we X (.Call (.Name x p) [a] [] pos) σ H Q := ⟨_, pe_callTy hc hg hm hv (pa_cons pe_we pa_nil he) hn hdb he (by rfl), h⟩
theorem wi_toInt {i : Int} (ha : wi X a σ H i) (hm : X.mg "int" = none) (hg : Gl X "int" := by rfl) (he : starEach [a] X.env = (false, eval a X.env) :: starEach [] X.env := by rfl) : wi X (.Call (.Name "int" p) [a] [] pos) σ H i := fun Q q => we_callT call_int1 (ha _ (.inl ⟨i, rfl, q⟩)) hm hg (by decide +kernel) (by decide) (by decide) he
theorem wi_bToInt {k : Bool} (ha : wb X a σ H k) (hm : X.mg "int" = none) (hg : Gl X "int" := by rfl) (he : starEach [a] X.env = (false, eval a X.env) :: starEach [] X.env := by rfl) : wi X (.Call (.Name "int" p) [a] [] pos) σ H (if k then 1 else 0) := fun Q q => we_callT call_int1 (ha _ (.inr ⟨k, rfl, q⟩)) hm hg (by decide +kernel) (by decide) (by decide) he
theorem wi_abs {i : Int} (ha : wi X a σ H i) (hm : X.mg "abs" = none) (hg : Gl X "abs" := by rfl) (he : starEach [a] X.env = (false, eval a X.env) :: starEach [] X.env := by rfl) : wi X (.Call (.Name "abs" p) [a] [] pos) σ H (if i < 0 then -i else i) := fun Q q => we_callB call_abs (ha _ ⟨i, rfl, q⟩) hm hg (by decide +kernel) (by decide) (by decide) he
theorem wi_max {i j : Int} (hc : X.calm = true) (ha : wi X a σ H i) (hb : wi X b σ H j) (hm : X.mg "max" = none) (hg : Gl X "max" := by rfl) (he : starEach [a, b] X.env = (false, eval a X.env) :: starEach [b] X.env := by rfl) (he2 : starEach [b] X.env = (false, eval b X.env) :: starEach [] X.env := by rfl) (hpl : (backTo pos (starEach [b] X.env)).any (·.1) = false := by rfl) :
    wi X (.Call (.Name "max" p) [a, b] [] pos) σ H (if j > i then j else i) := fun Q q => we_callB2 (call_max2 hc) (ha _ (hb _ ⟨i, j, rfl, q⟩)) hm hg (by decide +kernel) (by decide) (by decide) he he2 hpl
theorem wi_min {i j : Int} (hc : X.calm = true) (ha : wi X a σ H i) (hb : wi X b σ H j) (hm : X.mg "min" = none) (hg : Gl X "min" := by rfl) (he : starEach [a, b] X.env = (false, eval a X.env) :: starEach [b] X.env := by rfl) (he2 : starEach [b] X.env = (false, eval b X.env) :: starEach [] X.env := by rfl) (hpl : (backTo pos (starEach [b] X.env)).any (·.1) = false := by rfl) :
    wi X (.Call (.Name "min" p) [a, b] [] pos) σ H (if j < i then j else i) := fun Q q => we_callB2 (call_min2 hc) (ha _ (hb _ ⟨i, j, rfl, q⟩)) hm hg (by decide +kernel) (by decide) (by decide) he he2 hpl
theorem wi_len {q : Addr} {xs : List V} (ha : ∀ Q : VK, Q (.ref q) H → we X a σ H Q) (hl : SqL X.K H q xs) (hm : X.mg "len" = none) (hg : Gl X "len" := by rfl) (he : starEach [a] X.env = (false, eval a X.env) :: starEach [] X.env := by rfl) : wi X (.Call (.Name "len" p) [a] [] pos) σ H (xs.length : Nat) := fun Q r =>
  we_callB call_len (ha _ ⟨.ref q, xs.length, rfl, .inl ⟨xs, hl, rfl⟩, r⟩) hm hg (by decide +kernel) (by decide) (by decide) he
theorem we_callF {x : Str} {f : Addr} {sp : Sp} {k j : Nat} {Q : VK} (F : FnR X.prog X.w X.K X.mg X.base CX0 k f sp) (hm : X.mg x = some (.ref f)) (hk : PySem.W.keepIn X.K (.ref f) = true) (hr : Room j X.A) (h : we X a σ H fun v H1 => sp [v] H1 Q E0) (hkj : k ≤ j := by decide) (hg : Gl X x := by rfl)
    (hdb : (x == ("__debug__" : Str)) = false := by decide) (he : starEach [a] X.env = (false, eval a X.env) :: starEach [] X.env := by rfl) : we X (.Call (.Name x p) [a] [] pos) σ H Q := ⟨_, pe_callFR F (hr.mono hkj) hg hm hk (pa_cons pe_we pa_nil he) hdb he (by rfl), h⟩
theorem we_callF2 {x : Str} {f : Addr} {sp : Sp} {k j : Nat} {Q : VK} (F : FnR X.prog X.w X.K X.mg X.base CX0 k f sp) (hm : X.mg x = some (.ref f)) (hk : PySem.W.keepIn X.K (.ref f) = true) (hr : Room j X.A) (h : we X a σ H fun v H1 => we X b σ H1 fun u H2 => sp [v, u] H2 Q E0) (hkj : k ≤ j := by decide) (hg : Gl X x := by rfl)
    (hdb : (x == ("__debug__" : Str)) = false := by decide) (he : starEach [a, b] X.env = (false, eval a X.env) :: starEach [b] X.env := by rfl) (he2 : starEach [b] X.env = (false, eval b X.env) :: starEach [] X.env := by rfl) (hpl : (backTo pos (starEach [b] X.env)).any (·.1) = false := by rfl) : we X (.Call (.Name x p) [a, b] [] pos) σ H Q := ⟨_, pe_callFR F (hr.mono hkj) hg hm hk (pa_cons pe_we (pa_cons pe_we pa_nil he2) he) hdb he hpl, h⟩

/-! ### statements -/
variable {D : Ends}
theorem wss_nil (h : D.nx σ H) : wss X [] D σ H := ⟨_, pss_nil, h⟩
theorem wss_cons (h : ws X st { D with nx := wss X rest D } σ H) : wss X (st :: rest) D σ H := ⟨_, pss_cons ps_ws pss_wss, h⟩
theorem ws_set (i : Nat) {x : Str} {p' : Pos} (nd : X.N.Nodup) (h : we X e σ H fun v H1 => D.nx (σ.set i (some v)) H1) (hi : X.N[i]? = some x := by rfl) (hx : Loc X.env.scope x := by first | exact Or.inl rfl | exact Or.inr rfl) (hs : swapsWith e (some (.Name x p')) pos.line X.env = pure false := by rfl)
    (hf : X.fn x = true ∨ X.env.scope.names.lookup x = some .local := by first | exact .inl rfl | exact .inr rfl | assumption) : ws X (.Assign [.Name x p'] e pos) D σ H := ⟨_, ps_set nd hi hx pe_we hs hf, h⟩
theorem ws_ret (h : we X e σ H D.rt) : ws X (.Return (some e) pos) D σ H := ⟨_, ps_ret pe_we, h⟩
theorem ws_if {k : Bool} (hc : ∀ Q : Bool → Hp → Prop, Q k H → wt X c σ H Q) (ha : k = true → wss X sa D σ H) (hb : k = false → wss X sb D σ H) : ws X (.If c sa sb pos) D σ H := ⟨_, ps_if pt_wt pss_wss pss_wss, hc _ (by
  cases k with
  | true =>
    rw [if_pos rfl]
    exact ha rfl
  | false =>
    rw [if_neg Bool.false_ne_true]
    exact hb rfl)⟩
/-- a[b] = e, a list of one's own -/
theorem ws_put {p' : Pos} {q : Addr} {xs : List V} {i k : Int} {j : Nat} (he : wi X e σ H k) (ho : ∀ Q : VK, Q (.ref q) H → we X a σ H Q) (hi : wi X b σ H i) (hq : H q = some (.lst xs)) (hj : ixN xs.length i = some j) (h : D.nx σ (upd H q (.lst (xs.set j (.int k)))))
    (ha : ∀ v, assign (.Subscript a b p') X.env v = (do
      let ov ← holding [v] (eval a X.env)
      let iv ← holding [v, ov] (eval b X.env)
      standAt p'
      holding [v, ov, iv] (setItem ov iv v)
      release [v, ov, iv] []) := by intro _; rfl) (hs : swapsWithSole [.Subscript a b p'] e pos.line X.env = pure false := by rfl) (hw : swappedStores [.Subscript a b p'] e X.env = pure none := by rfl)
    (h1 : (assignEach [.Subscript a b p'] X.env).map (·.2) = [assign (.Subscript a b p') X.env] := by rfl) : ws X (.Assign [.Subscript a b p'] e pos) D σ H :=
  ⟨_, ps_asg pe_we (pg_sub pe_we pe_we set_list ha) hs hw h1, he _ (ho _ (hi _ ⟨q, xs, i, j, rfl, rfl, hq, hj, h⟩))⟩
end
/-! ### a def -/
section
variable {P : Program} {w : World} {K : PySem.W.Frag} {mg : Str → Option Value} {base : Heap}
theorem fn_own {x qual : Str} {params : Arguments} {body : List Stmt} {scope : Scope} {f : Addr} {fd : FuncData} {N ps : List Str} {k : Nat} {sp : Sp} (F : FunD K x qual params body scope [] [] f fd) (S : FnScope N ps scope) (len : ∀ vs H Q E, sp vs H Q E → vs.length = ps.length)
    (hb : ∀ (kV doc pm : Value) (an : Option Addr) (cdv ct : Value) (us : List Value), us.length = ps.length → bindArgs (PySem.W.fnOf x qual params body scope .none kV doc pm an cdv ct) ⟨us, []⟩ = pure (ps.zip us))
    (hbody : ∀ (cdv : Value) (A : Around) (outer : List PySem.Env) (s0 : Shared) (H : Hp) (E : XK) (vs : List V) (Q : VK), Room k (A.deeper (envOfC qual scope s0.heap.objs.size f cdv)) → sp vs H Q E → wss (cxOf CX0 P w K mg base N qual scope f cdv A outer s0 H E).nox body { nx := fun _ H' => Q .non H', rt := Q } (L2.start N vs) H) :
    FnR P w K mg base CX0 (k + 1) f sp := by
  have G : FnOk P w K mg base CX0 (k + 1) f fd ps sp := by
    refine F.ok S len fun cdv A outer s0 H vs Q E hr h => ?_
    obtain ⟨t, p, z⟩ := hbody cdv A outer s0 H E vs Q hr h
    exact ⟨t, p.nox, z⟩
  exact (G.raw (F.bindsN hb) .nil).imp fun vs H Q E h => by rw [List.append_nil]; exact h
end
end DL
set_option Elab.async false
set_option linter.all false
set_option maxRecDepth 100000
set_option maxHeartbeats 4000000
/-! Fs: straight-line int expressions at once. -/
namespace DL
open PySem PySem.Spec PyProof.Rows L2
def frcN {α : Type} (n : Nat) (k : Nat → α) : α := match n with
  | 0 => k 0
  | m + 1 => k (m + 1)
theorem frcN_eq {α : Type} {n : Nat} {k : Nat → α} : frcN n k = k n := by cases n <;> rfl
/-- k of i, i worked out -/
def frc {α : Type} (i : Int) (k : Int → α) : α := match i with
  | .ofNat n => frcN n fun n => k (.ofNat n)
  | .negSucc n => frcN n fun n => k (.negSucc n)
theorem frc_eq {α : Type} {i : Int} {k : Int → α} : frc i k = k i := by
  cases i <;> unfold frc <;> dsimp only <;> rw [frcN_eq]
def small (i : Int) : Bool := Nat.blt i.natAbs 1267650600228229401496703205376
/-- x: any int, of so many bits, its value -/
inductive IE where
  | x (m : M W) (b : Nat) (v : Int) | c (k : Int) | add (a b : IE) | sub (a b : IE) | mul (a b : IE)
def IE.m : IE → M W
  | .x m _ _ => m
  | .c k => mC (.d (.int k))
  | .add a b => mOp fAdd a.m b.m
  | .sub a b => mOp fSub a.m b.m
  | .mul a b => mOp fMul a.m b.m
def IE.val : IE → Int
  | .x _ _ v => v
  | .c k => k
  | .add a b => a.val + b.val
  | .sub a b => a.val - b.val
  | .mul a b => a.val * b.val
def IE.bits : IE → Nat
  | .x _ b _ => b
  | .c _ => 100
  | .add a b => max a.bits b.bits + 1
  | .sub a b => max a.bits b.bits + 1
  | .mul a b => a.bits + b.bits
def isAt (m : M W) (b : Nat) (v : Int) (ρ : DL.Env) : Prop := 0 < b ∧ m ρ = some (.d (.int v)) ∧ v.natAbs < 2 ^ b
def IE.fine (ρ : DL.Env) : IE → Prop
  | .x m b v => isAt m b v ρ
  | .c k => k.natAbs < 2 ^ 100
  | .add a b => a.fine ρ ∧ b.fine ρ
  | .sub a b => a.fine ρ ∧ b.fine ρ
  | .mul a b => a.fine ρ ∧ b.fine ρ
theorem pow_up {n m : Nat} (h : n ≤ m) : 2 ^ n ≤ 2 ^ m := Nat.pow_le_pow_right (by decide) h
theorem log2_lt {n k : Nat} (h : n < 2 ^ k) (hk : 0 < k) : n.log2 < k := by
  by_cases h0 : n = 0
  · subst h0
    simpa using hk
  · exact (Nat.log2_lt h0).mpr h
theorem IE.pos {ρ : DL.Env} : ∀ e : IE, e.fine ρ → 0 < e.bits
  | .x _ _ _, h => h.1
  | .c _, _ => by simp [IE.bits]
  | .add a b, _ => by simp [IE.bits]
  | .sub a b, _ => by simp [IE.bits]
  | .mul a b, h => by
    have := IE.pos a h.1
    simp only [IE.bits]
    omega
theorem IE.run {ρ : DL.Env} : ∀ (e : IE), e.fine ρ → e.bits ≤ 10000 → e.m ρ = some (.d (.int (e.val))) ∧ (e.val).natAbs < 2 ^ e.bits
  | .x m b v, h, _ => ⟨h.2.1, h.2.2⟩
  | .c k, h, _ => ⟨rfl, h⟩
  | .add a b, h, hb => by
    simp only [IE.bits] at hb
    obtain ⟨a1, a2⟩ := IE.run a h.1 (by omega)
    obtain ⟨b1, b2⟩ := IE.run b h.2 (by omega)
    refine ⟨?_, ?_⟩
    · show mOp fAdd a.m b.m ρ = _
      unfold mOp
      rw [a1, b1]
      rfl
    · simp only [IE.bits, IE.val]
      have p1 := pow_up (Nat.le_max_left a.bits b.bits)
      have p2 := pow_up (Nat.le_max_right a.bits b.bits)
      rw [Nat.pow_succ]
      omega
  | .sub a b, h, hb => by
    simp only [IE.bits] at hb
    obtain ⟨a1, a2⟩ := IE.run a h.1 (by omega)
    obtain ⟨b1, b2⟩ := IE.run b h.2 (by omega)
    refine ⟨?_, ?_⟩
    · show mOp fSub a.m b.m ρ = _
      unfold mOp
      rw [a1, b1]
      rfl
    · simp only [IE.bits, IE.val]
      have p1 := pow_up (Nat.le_max_left a.bits b.bits)
      have p2 := pow_up (Nat.le_max_right a.bits b.bits)
      rw [Nat.pow_succ]
      omega
  | .mul a b, h, hb => by
    simp only [IE.bits] at hb
    obtain ⟨a1, a2⟩ := IE.run a h.1 (by omega)
    obtain ⟨b1, b2⟩ := IE.run b h.2 (by omega)
    have l1 := log2_lt a2 (a.pos h.1)
    have l2 := log2_lt b2 (b.pos h.2)
    refine ⟨?_, ?_⟩
    · show mOp fMul a.m b.m ρ = _
      unfold mOp
      rw [a1, b1]
      show fMul (.d (.int (a.val))) (.d (.int (b.val))) = _
      unfold fMul
      have e : Nat.blt ((a.val).natAbs.log2 + (b.val).natAbs.log2) 1000000 = true := Nat.blt_eq.mpr (by omega)
      simp only [e]
      rfl
    · simp only [IE.bits, IE.val]
      rw [Int.natAbs_mul, Nat.pow_add]
      exact Nat.mul_lt_mul'' a2 b2
theorem small_ok {i : Int} (h : small i = true) : i.natAbs < 2 ^ 100 := Nat.blt_eq.mp h
/-- a weaker mirror serves too -/
theorem Cal.weaken {P : Program} {w : World} {K : PySem.W.Frag} {mg : Str → Option Value} {base : Heap} {k : Nat} {x : Str} {n : Nat} {m m' : List W → Option W} (c : Cal P w K mg base k x n m) (h : ∀ ws r, m' ws = some r → m ws = some r) : Cal P w K mg base k x n m' := by
  obtain ⟨f, F, h1, h2⟩ := c.ex
  exact ⟨f, F.imp fun vs H Q E ⟨a, b, ws, r, c1, c2, c3⟩ => ⟨a, b, ws, r, c1, h ws r c2, c3⟩, h1, h2⟩

/-! all worked out -/
mutual
/-- k of d, d worked out -/
def frcD {α : Type} : D → (D → α) → α
  | .non, k => k .non
  | .bl b, k => match b with
    | true => k (.bl true)
    | false => k (.bl false)
  | .int i, k => frc i fun i => k (.int i)
  | .str x, k => k (.str x)
  | .tup ds, k => frcA ds fun ds => k (.tup ds)
  | .obj c x, k => frcD x fun x => k (.obj c x)
def frcA {α : Type} : List D → (List D → α) → α
  | [], k => k []
  | d :: ds, k => frcD d fun d => frcA ds fun ds => k (d :: ds)
end
mutual
theorem frcD_eq {α : Type} : ∀ (d : D) (k : D → α), frcD d k = k d
  | .non, k => by simp only [frcD]
  | .bl b, k => by cases b <;> simp only [frcD]
  | .int i, k => by simp only [frcD, frc_eq]
  | .str x, k => by simp only [frcD]
  | .tup ds, k => by
    simp only [frcD]
    exact frcA_eq ds _
  | .obj c x, k => by
    simp only [frcD]
    exact frcD_eq x _
theorem frcA_eq {α : Type} : ∀ (ds : List D) (k : List D → α), frcA ds k = k ds
  | [], k => by simp only [frcA]
  | d :: ds, k => by
    simp only [frcA]
    rw [frcD_eq d]
    exact frcA_eq ds _
end
def frcW {α : Type} (x : W) (k : W → α) : α := match x with
  | .d d => frcD d fun d => k (.d d)
  | .own ds => frcA ds fun ds => k (.own ds)
  | .lst ds => frcA ds fun ds => k (.lst ds)
  | .set ds => frcA ds fun ds => k (.set ds)
  | .dct ds => frcA ds fun ds => k (.dct ds)
theorem frcW_eq {α : Type} (x : W) (k : W → α) : frcW x k = k x := by
  cases x <;> simp only [frcW, frcD_eq, frcA_eq]
def frcL {α : Type} : List W → (List W → α) → α
  | [], k => k []
  | x :: xs, k => frcW x fun x => frcL xs fun xs => k (x :: xs)
theorem frcL_eq {α : Type} : ∀ (xs : List W) (k : List W → α), frcL xs k = k xs
  | [], _ => rfl
  | x :: xs, k => by
    unfold frcL
    rw [frcW_eq, frcL_eq xs]
/-- m of what is worked out, worked out -/
def strict (m : List W → Option W) (ws : List W) : Option W := frcL ws fun ws => match m ws with
  | some r => frcW r fun r => some r
  | none => none
theorem strict_ok (m : List W → Option W) (ws : List W) (r : W) (h : strict m ws = some r) : m ws = some r := by
  unfold strict at h
  rw [frcL_eq] at h
  cases e : m ws with
  | none =>
    rw [e] at h
    cases h
  | some x =>
    rw [e] at h
    dsimp only at h
    rw [frcW_eq] at h
    exact h
end DL
set_option Elab.async false
set_option linter.all false
set_option maxRecDepth 100000
set_option maxHeartbeats 4000000
namespace F79
open PySem PySem.Spec PyProof.Rows L2 DL
def s_is_whole : M Out := (sRet (mIf (mTest (mUn (fIsB .int) (mVar 0))) (mBoo (mNot (mTest (mUn (fIsB .bool) (mVar 0))))) (mC (.d (.bl false)))))
def m_is_whole : List W → Option W := mFn 1 s_is_whole
def s_is_integer : M Out := (sRet (mIf (mTest (mCall m_is_whole (mCons (mVar 0) mNil))) (mOp fLt (mCall bAbs (mCons (mVar 0) mNil)) (mC (.d c_SIXTY_DIGITS))) (mC (.d (.bl false)))))
def m_is_integer : List W → Option W := mFn 1 s_is_integer
def s_is_within : M Out := (sRet (mIf (mTest (mCall m_is_whole (mCons (mVar 0) mNil))) (mChain fLe fLe (mVar 1) (mVar 0) (mVar 2)) (mC (.d (.bl false)))))
def m_is_within : List W → Option W := mFn 3 s_is_within
def s_require_within : M Out := (sIf (mNot (mTest (mCall m_is_within (mCons (mVar 0) (mCons (mVar 1) (mCons (mVar 2) mNil)))))) sNone sNx)
def m_require_within : List W → Option W := mFn 3 s_require_within
def s_common_of : M Out := (sRet (mCall bGcd (mCons (mVar 0) (mCons (mVar 1) mNil))))
def m_common_of : List W → Option W := mFn 2 s_common_of
def s_taken_out : M Out := (sSeq (sSet 2 (mC (.d (.int 0)))) (sSeq (sWhile 64 (mTest (mOp fEq (mOp fMod (mVar 0) (mVar 1)) (mC (.d (.int 0))))) (sSeq (sAug 0 fDiv (mVar 1)) (sAug 2 fAdd (mC (.d (.int 1)))))) (sRet (mTup (mCons (mVar 2) (mCons (mVar 0) mNil))))))
def m_taken_out : List W → Option W := mFn 3 s_taken_out
def s_factors_in : M Out := (sSeq (sPar 2 3 (mLst mNil) (mVar 0)) (sSeq (sFor (itT (mTup (mCons (mC (.d (.int 2))) (mCons (mC (.d (.int 3))) mNil)))) (gNm 1) (sSeq (sAsg (mCall m_taken_out (mCons (mVar 3) (mCons (mVar 1) mNil))) (gTp 2 (gsCons (gNm 5) (gsCons (gNm 3) gsNil)))) (sIf (mTest (mOp fGt (mVar 5) (mC (.d (.int 0))))) (sAppend 2 (mTup (mCons (mVar 1) (mCons (mVar 5) mNil)))) sNx))) (sSeq (sAsg (mTup (mCons (mC (.d (.int 5))) (mCons (mC (.d (.int 2))) mNil))) (gTp 2 (gsCons (gNm 1) (gsCons (gNm 4) gsNil)))) (sSeq (sWhile 64 (mTest (mOp fLe (mOp fMul (mVar 1) (mVar 1)) (mVar 3))) (sSeq (sIf (mTest (mOp fEq (mOp fMod (mVar 3) (mVar 1)) (mC (.d (.int 0))))) (sSeq (sAsg (mCall m_taken_out (mCons (mVar 3) (mCons (mVar 1) mNil))) (gTp 2 (gsCons (gNm 5) (gsCons (gNm 3) gsNil)))) (sAppend 2 (mTup (mCons (mVar 1) (mCons (mVar 5) mNil))))) sNx) (sPar 1 4 (mOp fAdd (mVar 1) (mVar 4)) (mOp fSub (mC (.d (.int 6))) (mVar 4))))) (sSeq (sIf (mTest (mOp fGt (mVar 3) (mC (.d (.int 1))))) (sAppend 2 (mTup (mCons (mVar 3) (mCons (mC (.d (.int 1))) mNil)))) sNx) (sRetV 2))))))
def m_factors_in : List W → Option W := mFn 6 s_factors_in
def s_joined_in : M Out := (sSeq (sAsg (mVar 0) (gTp 2 (gsCons (gTp 2 (gsCons (gNm 2) (gsCons (gNm 3) gsNil))) (gsCons (gTp 2 (gsCons (gNm 4) (gsCons (gNm 5) gsNil))) gsNil)))) (sSeq (sAsg (mVar 1) (gTp 2 (gsCons (gTp 2 (gsCons (gNm 6) (gsCons (gNm 7) gsNil))) (gsCons (gTp 2 (gsCons (gNm 8) (gsCons (gNm 9) gsNil))) gsNil)))) (sRet (mTup (mCons (mTup (mCons (mOp fAdd (mOp fMul (mVar 6) (mVar 2)) (mOp fMul (mVar 7) (mVar 4))) (mCons (mOp fAdd (mOp fMul (mVar 6) (mVar 3)) (mOp fMul (mVar 7) (mVar 5))) mNil))) (mCons (mTup (mCons (mOp fAdd (mOp fMul (mVar 8) (mVar 2)) (mOp fMul (mVar 9) (mVar 4))) (mCons (mOp fAdd (mOp fMul (mVar 8) (mVar 3)) (mOp fMul (mVar 9) (mVar 5))) mNil))) mNil))))))
def o_joined_in : List W → Option W := mFn 10 s_joined_in
def x_joined_in : List W → Option W
  | [.d (.tup [.tup [.int p, .int q], .tup [.int r, .int s]]), .d (.tup [.tup [.int i, .int j], .tup [.int k, .int l]])] => match small p && small q && small r && small s && small i && small j && small k && small l with
    | true => frc ((i * p) + (j * r)) fun o0 => frc ((i * q) + (j * s)) fun o1 => frc ((k * p) + (l * r)) fun o2 => frc ((k * q) + (l * s)) fun o3 => some (.d (.tup [.tup [.int o0, .int o1], .tup [.int o2, .int o3]]))
    | false => none
  | _ => none
def m_joined_in : List W → Option W := x_joined_in
def s_are_integers : M Out := (sRet (mIf (mTest (mUn (fIsB .tuple) (mVar 0))) (mIf (mTest (mOp fEq (mCall bLen (mCons (mVar 0) mNil)) (mVar 1))) (mCall bAll (mCons (mLc (itT (mVar 0)) [2] (gNm 2) mYes (mCall m_is_integer (mCons (mVar 2) mNil))) mNil)) (mC (.d (.bl false)))) (mC (.d (.bl false)))))
def m_are_integers : List W → Option W := mFn 3 s_are_integers
def s_content_of : M Out := (sSeq (sSet 1 (mC (.d (.int 0)))) (sSeq (sFor (itT (mVar 0)) (gNm 2) (sSet 1 (mCall m_common_of (mCons (mVar 1) (mCons (mVar 2) mNil))))) (sRetV 1)))
def m_content_of : List W → Option W := mFn 3 s_content_of
def s_double_told : M Out := (sSeq (sIf (mTest (mUn (fIsC .kd) (mVar 0))) (sRet (mUn (fSlot .kd) (mVar 0))) sNx) (sSeq (sIf (mNot (mTest (mCall m_are_integers (mCons (mVar 0) (mCons (mC (.d c_SIZE_doubles)) mNil))))) sNone sNx) (sRetV 0)))
def m_double_told : List W → Option W := mFn 1 s_double_told
def s_form_told : M Out := (sSeq (sIf (mTest (mUn (fIsC .kf) (mVar 0))) (sRet (mUn (fSlot .kf) (mVar 0))) sNx) (sSeq (sIf (mNot (mTest (mCall m_are_integers (mCons (mVar 0) (mCons (mC (.d c_SIZE_forms)) mNil))))) sNone sNx) (sRetV 0)))
def m_form_told : List W → Option W := mFn 1 s_form_told
def m_KeptDouble_init_ : List W → Option D := mInit (mCall bTup (mCons (mVar 1) mNil))
def m_Double_init_ : List W → Option D := mInit (mCall m_double_told (mCons (mVar 1) mNil))
def m_KeptForm_init_ : List W → Option D := mInit (mCall bTup (mCons (mVar 1) mNil))
def m_Form_init_ : List W → Option D := mInit (mCall m_form_told (mCons (mVar 1) mNil))
def s_made_double : M Out := (sRet (mMake .db m_Double_init_ (mCons (mMake .kd m_KeptDouble_init_ (mCons (mVar 0) mNil)) mNil)))
def m_made_double : List W → Option W := mFn 1 s_made_double
def s_made_form : M Out := (sRet (mMake .fm m_Form_init_ (mCons (mMake .kf m_KeptForm_init_ (mCons (mVar 0) mNil)) mNil)))
def m_made_form : List W → Option W := mFn 1 s_made_form
def s_Double_content : M Out := (sRet (mCall m_content_of (mCons (mUn (fSlot .db) (mVar 0)) mNil)))
def m_Double_content : List W → Option W := mFn 1 s_Double_content
def s_lowest_place : M Out := (sSeq (sSet 2 (mCall m_common_of (mCons (mVar 0) (mCons (mVar 1) mNil)))) (sSeq (sIf (mOr (mTest (mOp fLt (mVar 1) (mC (.d (.int 0))))) (mAnd (mTest (mOp fEq (mVar 1) (mC (.d (.int 0))))) (mTest (mOp fLt (mVar 0) (mC (.d (.int 0))))))) (sSet 2 (mUn fNeg (mVar 2))) sNx) (sRet (mTup (mCons (mOp fDiv (mVar 0) (mVar 2)) (mCons (mOp fDiv (mVar 1) (mVar 2)) mNil))))))
def m_lowest_place : List W → Option W := mFn 3 s_lowest_place
def s_places_of_double : M Out := (sSeq (sAsg (mVar 0) (gTp 3 (gsCons (gNm 3) (gsCons (gNm 4) (gsCons (gNm 5) gsNil))))) (sSeq (sIf (mTest (mOp fEq (mVar 3) (mC (.d (.int 0))))) (sRet (mIf (mTest (mOp fNe (mVar 4) (mC (.d (.int 0))))) (mLst (mCons (mC (.d c_END_lines)) (mCons (mCall m_lowest_place (mCons (mUn fNeg (mVar 5)) (mCons (mVar 4) mNil))) mNil))) (mLst (mCons (mC (.d c_END_lines)) mNil)))) sNx) (sSeq (sSet 1 (mOp fSub (mOp fMul (mVar 4) (mVar 4)) (mOp fMul (mOp fMul (mC (.d (.int 4))) (mVar 3)) (mVar 5)))) (sSeq (sIf (mOr (mTest (mOp fLt (mVar 1) (mC (.d (.int 0))))) (mTest (mOp fNe (mOp fMul (mCall bSqrt (mCons (mVar 1) mNil)) (mCall bSqrt (mCons (mVar 1) mNil))) (mVar 1)))) (sRet (mLst mNil)) sNx) (sSeq (sSet 2 (mCall bSqrt (mCons (mVar 1) mNil))) (sRet (mLst (mCons (mCall m_lowest_place (mCons (mOp fSub (mUn fNeg (mVar 4)) (mVar 2)) (mCons (mOp fMul (mC (.d (.int 2))) (mVar 3)) mNil))) (mCons (mCall m_lowest_place (mCons (mOp fAdd (mUn fNeg (mVar 4)) (mVar 2)) (mCons (mOp fMul (mC (.d (.int 2))) (mVar 3)) mNil))) mNil)))))))))
def m_places_of_double : List W → Option W := mFn 6 s_places_of_double
def s_monic_at : M Out := (sSeq (sAsg (mVar 0) (gTp 3 (gsCons (gNm 2) (gsCons (gNm 3) (gsCons (gNm 4) gsNil))))) (sRet (mOp fAdd (mOp fMul (mOp fAdd (mOp fMul (mOp fAdd (mVar 1) (mVar 2)) (mVar 1)) (mVar 3)) (mVar 1)) (mVar 4))))
def o_monic_at : List W → Option W := mFn 5 s_monic_at
def x_monic_at : List W → Option W
  | [.d (.tup [.int u, .int v, .int w]), .d (.int x)] => match small x && small u && small v && small w with
    | true => frc (((((x + u) * x) + v) * x) + w) fun o0 => some (.d (.int o0))
    | false => none
  | _ => none
def m_monic_at : List W → Option W := x_monic_at
def s_bisected : M Out := (sSeq (sWhile 200 (mTest (mOp fLt (mVar 1) (mVar 2))) (sSeq (sSet 4 (mOp fDiv (mOp fAdd (mVar 1) (mVar 2)) (mC (.d (.int 2))))) (sIf (mTest (mOp fGe (mOp fMul (mVar 3) (mCall m_monic_at (mCons (mVar 0) (mCons (mVar 4) mNil)))) (mC (.d (.int 0))))) (sSet 2 (mVar 4)) (sSet 1 (mOp fAdd (mVar 4) (mC (.d (.int 1)))))))) (sRet (mIf (mAnd (mTest (mOp fEq (mVar 1) (mVar 2))) (mTest (mOp fEq (mCall m_monic_at (mCons (mVar 0) (mCons (mVar 1) mNil))) (mC (.d (.int 0)))))) (mLst (mCons (mVar 1) mNil)) (mLst mNil))))
def m_bisected : List W → Option W := mFn 5 s_bisected
def s_monic_roots : M Out := (sSeq (sAsg (mVar 0) (gTp 3 (gsCons (gNm 3) (gsCons (gNm 4) (gsCons (gNm 5) gsNil))))) (sSeq (sPar 6 7 (mOp fAdd (mC (.d (.int 2))) (mCall bMax3 (mCons (mCall bAbs (mCons (mVar 3) mNil)) (mCons (mCall bAbs (mCons (mVar 4) mNil)) (mCons (mCall bAbs (mCons (mVar 5) mNil)) mNil))))) (mOp fSub (mOp fMul (mVar 3) (mVar 3)) (mOp fMul (mC (.d (.int 3))) (mVar 4)))) (sSeq (sIf (mTest (mOp fLe (mVar 7) (mC (.d (.int 0))))) (sRet (mCall m_bisected (mCons (mVar 0) (mCons (mUn fNeg (mVar 6)) (mCons (mVar 6) (mCons (mC (.d (.int 1))) mNil)))))) sNx) (sSeq (sSet 1 (mCall bSqrt (mCons (mVar 7) mNil))) (sSeq (sPar 8 9 (mOp fDiv (mOp fSub (mOp fSub (mUn fNeg (mVar 3)) (mVar 1)) (mC (.d (.int 1)))) (mC (.d (.int 3)))) (mOp fDiv (mOp fAdd (mUn fNeg (mVar 3)) (mVar 1)) (mC (.d (.int 3))))) (sSeq (sSet 2 (mCall m_bisected (mCons (mVar 0) (mCons (mUn fNeg (mVar 6)) (mCons (mVar 8) (mCons (mC (.d (.int 1))) mNil)))))) (sSeq (sExtend 2 (mCall m_bisected (mCons (mVar 0) (mCons (mOp fAdd (mVar 8) (mC (.d (.int 1)))) (mCons (mVar 9) (mCons (mUn fNeg (mC (.d (.int 1)))) mNil)))))) (sRet (mLst (mStar (mVar 2) (mStar (mCall m_bisected (mCons (mVar 0) (mCons (mOp fAdd (mVar 9) (mC (.d (.int 1)))) (mCons (mVar 6) (mCons (mC (.d (.int 1))) mNil))))) mNil)))))))))))
def m_monic_roots : List W → Option W := mFn 10 s_monic_roots
def s_places_of_cubic : M Out := (sSeq (sAsg (mVar 0) (gTp 4 (gsCons (gNm 1) (gsCons (gNm 2) (gsCons (gNm 3) (gsCons (gNm 4) gsNil)))))) (sSeq (sIf (mTest (mOp fNe (mVar 1) (mC (.d (.int 0))))) (sSet 5 (mLc (itLC (mCall m_monic_roots (mCons (mTup (mCons (mVar 2) (mCons (mOp fMul (mVar 1) (mVar 3)) (mCons (mOp fMul (mOp fMul (mVar 1) (mVar 1)) (mVar 4)) mNil)))) mNil))) [6] (gNm 6) mYes (mCall m_lowest_place (mCons (mVar 6) (mCons (mVar 1) mNil))))) (sSet 5 (mLst (mCons (mC (.d c_END_lines)) (mStar (mIf (mTest (mOp fNe (mTup (mCons (mVar 2) (mCons (mVar 3) (mCons (mVar 4) mNil)))) (mTup (mCons (mC (.d (.int 0))) (mCons (mC (.d (.int 0))) (mCons (mC (.d (.int 0))) mNil)))))) (mCall m_places_of_double (mCons (mTup (mCons (mVar 2) (mCons (mVar 3) (mCons (mVar 4) mNil)))) mNil)) (mLst mNil)) mNil))))) (sRet (mCall bTup (mCons (mCall bSorted (mCons (mDc (itLC (mVar 5)) [7] (gNm 7) mYes (mVar 7)) mNil)) mNil)))))
def o_places_of_cubic : List W → Option W := mFn 8 s_places_of_cubic
def m_places_of_cubic : List W → Option W := strict o_places_of_cubic
def s_form_at : M Out := (sSeq (sAsg (mVar 0) (gTp 4 (gsCons (gNm 3) (gsCons (gNm 4) (gsCons (gNm 5) (gsCons (gNm 6) gsNil)))))) (sRet (mOp fAdd (mOp fMul (mOp fAdd (mOp fMul (mOp fAdd (mOp fMul (mVar 3) (mVar 1)) (mOp fMul (mVar 4) (mVar 2))) (mVar 1)) (mOp fMul (mOp fMul (mVar 5) (mVar 2)) (mVar 2))) (mVar 1)) (mOp fMul (mOp fMul (mOp fMul (mVar 6) (mVar 2)) (mVar 2)) (mVar 2)))))
def o_form_at : List W → Option W := mFn 7 s_form_at
def v_form_at (a b c d x y : Int) : Int := ((((((a * x) + (b * y)) * x) + ((c * y) * y)) * x) + (((d * y) * y) * y))
def x_form_at : List W → Option W
  | [.d (.tup [.int a, .int b, .int c, .int d]), .d (.int x), .d (.int y)] => match small x && small y && small a && small b && small c && small d with
    | true => frc (v_form_at a b c d x y) fun o0 => some (.d (.int o0))
    | false => none
  | _ => none
def m_form_at : List W → Option W := x_form_at
def s_form_led : M Out := (sSeq (sAsg (mVar 0) (gTp 4 (gsCons (gNm 5) (gsCons (gNm 6) (gsCons (gNm 7) (gsCons (gNm 8) gsNil)))))) (sSeq (sAsg (mVar 1) (gTp 2 (gsCons (gTp 2 (gsCons (gNm 9) (gsCons (gNm 10) gsNil))) (gsCons (gTp 2 (gsCons (gNm 11) (gsCons (gNm 12) gsNil))) gsNil)))) (sSeq (sSet 2 (mOp fSub (mOp fMul (mVar 9) (mVar 12)) (mOp fMul (mVar 10) (mVar 11)))) (sSeq (sSet 3 (mOp fAdd (mOp fAdd (mOp fAdd (mOp fMul (mOp fMul (mOp fMul (mOp fMul (mC (.d (.int 3))) (mVar 5)) (mVar 9)) (mVar 9)) (mVar 11)) (mOp fMul (mVar 6) (mOp fAdd (mOp fMul (mOp fMul (mVar 9) (mVar 9)) (mVar 12)) (mOp fMul (mOp fMul (mOp fMul (mC (.d (.int 2))) (mVar 9)) (mVar 10)) (mVar 11))))) (mOp fMul (mVar 7) (mOp fAdd (mOp fMul (mOp fMul (mOp fMul (mC (.d (.int 2))) (mVar 9)) (mVar 10)) (mVar 12)) (mOp fMul (mOp fMul (mVar 10) (mVar 10)) (mVar 11))))) (mOp fMul (mOp fMul (mOp fMul (mOp fMul (mC (.d (.int 3))) (mVar 8)) (mVar 10)) (mVar 10)) (mVar 12)))) (sSeq (sSet 4 (mOp fAdd (mOp fAdd (mOp fAdd (mOp fMul (mOp fMul (mOp fMul (mOp fMul (mC (.d (.int 3))) (mVar 5)) (mVar 9)) (mVar 11)) (mVar 11)) (mOp fMul (mVar 6) (mOp fAdd (mOp fMul (mOp fMul (mVar 11) (mVar 11)) (mVar 10)) (mOp fMul (mOp fMul (mOp fMul (mC (.d (.int 2))) (mVar 9)) (mVar 11)) (mVar 12))))) (mOp fMul (mVar 7) (mOp fAdd (mOp fMul (mOp fMul (mOp fMul (mC (.d (.int 2))) (mVar 10)) (mVar 11)) (mVar 12)) (mOp fMul (mOp fMul (mVar 9) (mVar 12)) (mVar 12))))) (mOp fMul (mOp fMul (mOp fMul (mOp fMul (mC (.d (.int 3))) (mVar 8)) (mVar 10)) (mVar 12)) (mVar 12)))) (sRet (mTup (mCons (mOp fMul (mVar 2) (mCall m_form_at (mCons (mVar 0) (mCons (mVar 9) (mCons (mVar 10) mNil))))) (mCons (mOp fMul (mVar 2) (mVar 3)) (mCons (mOp fMul (mVar 2) (mVar 4)) (mCons (mOp fMul (mVar 2) (mCall m_form_at (mCons (mVar 0) (mCons (mVar 11) (mCons (mVar 12) mNil))))) mNil)))))))))))
def o_form_led : List W → Option W := mFn 13 s_form_led
def x_form_led : List W → Option W
  | [.d (.tup [.int a, .int b, .int c, .int d]), .d (.tup [.tup [.int p, .int q], .tup [.int r, .int s]])] => match small a && small b && small c && small d && small p && small q && small r && small s with
    | true => frc ((p * s) - (q * r)) fun sense => frc (((((((3 * a) * p) * p) * r) + (b * (((p * p) * s) + (((2 * p) * q) * r)))) + (c * ((((2 * p) * q) * s) + ((q * q) * r)))) + ((((3 * d) * q) * q) * s)) fun second => frc (((((((3 * a) * p) * r) * r) + (b * (((r * r) * q) + (((2 * p) * r) * s)))) + (c * ((((2 * q) * r) * s) + ((p * s) * s)))) + ((((3 * d) * q) * s) * s)) fun third => frc (sense * (v_form_at a b c d p q)) fun o0 => frc (sense * second) fun o1 => frc (sense * third) fun o2 => frc (sense * (v_form_at a b c d r s)) fun o3 => some (.d (.tup [.int o0, .int o1, .int o2, .int o3]))
    | false => none
  | _ => none
def m_form_led : List W → Option W := x_form_led
def s_discriminant_of : M Out := (sSeq (sAsg (mVar 0) (gTp 4 (gsCons (gNm 2) (gsCons (gNm 3) (gsCons (gNm 4) (gsCons (gNm 5) gsNil)))))) (sSeq (sSet 1 (mOp fAdd (mOp fMul (mOp fMul (mOp fMul (mVar 3) (mVar 3)) (mVar 4)) (mVar 4)) (mOp fMul (mOp fMul (mOp fMul (mOp fMul (mC (.d (.int 18))) (mVar 2)) (mVar 3)) (mVar 4)) (mVar 5)))) (sRet (mOp fSub (mOp fSub (mOp fSub (mVar 1) (mOp fMul (mOp fMul (mOp fMul (mOp fMul (mC (.d (.int 4))) (mVar 2)) (mVar 4)) (mVar 4)) (mVar 4))) (mOp fMul (mOp fMul (mOp fMul (mOp fMul (mC (.d (.int 4))) (mVar 3)) (mVar 3)) (mVar 3)) (mVar 5))) (mOp fMul (mOp fMul (mOp fMul (mOp fMul (mC (.d (.int 27))) (mVar 2)) (mVar 2)) (mVar 5)) (mVar 5))))))
def o_discriminant_of : List W → Option W := mFn 6 s_discriminant_of
def x_discriminant_of : List W → Option W
  | [.d (.tup [.int a, .int b, .int c, .int d])] => match small a && small b && small c && small d with
    | true => frc ((((b * b) * c) * c) + ((((18 * a) * b) * c) * d)) fun plus => frc (((plus - ((((4 * a) * c) * c) * c)) - ((((4 * b) * b) * b) * d)) - ((((27 * a) * a) * d) * d)) fun o0 => some (.d (.int o0))
    | false => none
  | _ => none
def m_discriminant_of : List W → Option W := x_discriminant_of
def s_hessian_of : M Out := (sSeq (sAsg (mVar 0) (gTp 4 (gsCons (gNm 1) (gsCons (gNm 2) (gsCons (gNm 3) (gsCons (gNm 4) gsNil)))))) (sRet (mTup (mCons (mOp fSub (mOp fMul (mVar 2) (mVar 2)) (mOp fMul (mOp fMul (mC (.d (.int 3))) (mVar 1)) (mVar 3))) (mCons (mOp fSub (mOp fMul (mVar 2) (mVar 3)) (mOp fMul (mOp fMul (mC (.d (.int 9))) (mVar 1)) (mVar 4))) (mCons (mOp fSub (mOp fMul (mVar 3) (mVar 3)) (mOp fMul (mOp fMul (mC (.d (.int 3))) (mVar 2)) (mVar 4))) mNil))))))
def o_hessian_of : List W → Option W := mFn 5 s_hessian_of
def x_hessian_of : List W → Option W
  | [.d (.tup [.int a, .int b, .int c, .int d])] => match small a && small b && small c && small d with
    | true => frc ((b * b) - ((3 * a) * c)) fun o0 => frc ((b * c) - ((9 * a) * d)) fun o1 => frc ((c * c) - ((3 * b) * d)) fun o2 => some (.d (.tup [.int o0, .int o1, .int o2]))
    | false => none
  | _ => none
def m_hessian_of : List W → Option W := x_hessian_of
def s_Form_coefficients : M Out := (sRet (mUn (fSlot .fm) (mVar 0)))
def m_Form_coefficients : List W → Option W := mFn 1 s_Form_coefficients
def s_Form_discriminant : M Out := (sRet (mCall m_discriminant_of (mCons (mUn (fSlot .fm) (mVar 0)) mNil)))
def m_Form_discriminant : List W → Option W := mFn 1 s_Form_discriminant
def s_Form_hessian : M Out := (sRet (mCall m_made_double (mCons (mCall m_hessian_of (mCons (mUn (fSlot .fm) (mVar 0)) mNil)) mNil)))
def m_Form_hessian : List W → Option W := mFn 1 s_Form_hessian
def s_require_other_than_zero : M Out := (sIf (mNot (mTest (mCall bAny (mCons (mUn (fSlot .fm) (mVar 0)) mNil)))) sNone sNx)
def m_require_other_than_zero : List W → Option W := mFn 1 s_require_other_than_zero
def s_Form_roots : M Out := (sSeq (sDrop (mCall m_require_other_than_zero (mCons (mVar 0) mNil))) (sRet (mCall m_places_of_cubic (mCons (mUn (fSlot .fm) (mVar 0)) mNil))))
def m_Form_roots : List W → Option W := mFn 1 s_Form_roots
def s_require_form : M Out := (sIf (mNot (mTest (mUn (fIsC .fm) (mVar 0)))) sNone sNx)
def m_require_form : List W → Option W := mFn 1 s_require_form
def s_small_changes : M Out := (sSeq (sSet 0 (mLc2 (itT (mC (.d c_SIGNS))) 1 (itT (mC (.d c_SIGNS))) 2 mYes (mTup (mCons (mVar 1) (mCons (mVar 2) mNil))))) (sRet (mLc2 (itLC (mVar 0)) 3 (itLC (mVar 0)) 4 (mTest (mOp fIn (mOp fSub (mOp fMul (mOp fIx (mVar 3) (mC (.d (.int 0)))) (mOp fIx (mVar 4) (mC (.d (.int 1))))) (mOp fMul (mOp fIx (mVar 3) (mC (.d (.int 1)))) (mOp fIx (mVar 4) (mC (.d (.int 0)))))) (mTup (mCons (mUn fNeg (mC (.d (.int 1)))) (mCons (mC (.d (.int 1))) mNil))))) (mTup (mCons (mVar 3) (mCons (mVar 4) mNil))))))
def o_small_changes : List W → Option W := mFn 5 s_small_changes
def chsL : List D := [.tup [.tup [.int (-1), .int (-1)], .tup [.int (-1), .int 0]], .tup [.tup [.int (-1), .int (-1)], .tup [.int 0, .int (-1)]], .tup [.tup [.int (-1), .int (-1)], .tup [.int 0, .int 1]], .tup [.tup [.int (-1), .int (-1)], .tup [.int 1, .int 0]], .tup [.tup [.int (-1), .int 0], .tup [.int (-1), .int (-1)]], .tup [.tup [.int (-1), .int 0], .tup [.int (-1), .int 1]], .tup [.tup [.int (-1), .int 0], .tup [.int 0, .int (-1)]], .tup [.tup [.int (-1), .int 0], .tup [.int 0, .int 1]], .tup [.tup [.int (-1), .int 0], .tup [.int 1, .int (-1)]], .tup [.tup [.int (-1), .int 0], .tup [.int 1, .int 1]], .tup [.tup [.int (-1), .int 1], .tup [.int (-1), .int 0]], .tup [.tup [.int (-1), .int 1], .tup [.int 0, .int (-1)]], .tup [.tup [.int (-1), .int 1], .tup [.int 0, .int 1]], .tup [.tup [.int (-1), .int 1], .tup [.int 1, .int 0]], .tup [.tup [.int 0, .int (-1)], .tup [.int (-1), .int (-1)]], .tup [.tup [.int 0, .int (-1)], .tup [.int (-1), .int 0]], .tup [.tup [.int 0, .int (-1)], .tup [.int (-1), .int 1]], .tup [.tup [.int 0, .int (-1)], .tup [.int 1, .int (-1)]], .tup [.tup [.int 0, .int (-1)], .tup [.int 1, .int 0]], .tup [.tup [.int 0, .int (-1)], .tup [.int 1, .int 1]], .tup [.tup [.int 0, .int 1], .tup [.int (-1), .int (-1)]], .tup [.tup [.int 0, .int 1], .tup [.int (-1), .int 0]], .tup [.tup [.int 0, .int 1], .tup [.int (-1), .int 1]], .tup [.tup [.int 0, .int 1], .tup [.int 1, .int (-1)]], .tup [.tup [.int 0, .int 1], .tup [.int 1, .int 0]], .tup [.tup [.int 0, .int 1], .tup [.int 1, .int 1]], .tup [.tup [.int 1, .int (-1)], .tup [.int (-1), .int 0]], .tup [.tup [.int 1, .int (-1)], .tup [.int 0, .int (-1)]], .tup [.tup [.int 1, .int (-1)], .tup [.int 0, .int 1]], .tup [.tup [.int 1, .int (-1)], .tup [.int 1, .int 0]], .tup [.tup [.int 1, .int 0], .tup [.int (-1), .int (-1)]], .tup [.tup [.int 1, .int 0], .tup [.int (-1), .int 1]], .tup [.tup [.int 1, .int 0], .tup [.int 0, .int (-1)]], .tup [.tup [.int 1, .int 0], .tup [.int 0, .int 1]], .tup [.tup [.int 1, .int 0], .tup [.int 1, .int (-1)]], .tup [.tup [.int 1, .int 0], .tup [.int 1, .int 1]], .tup [.tup [.int 1, .int 1], .tup [.int (-1), .int 0]], .tup [.tup [.int 1, .int 1], .tup [.int 0, .int (-1)]], .tup [.tup [.int 1, .int 1], .tup [.int 0, .int 1]], .tup [.tup [.int 1, .int 1], .tup [.int 1, .int 0]]]
def x_small_changes : List W → Option W
  | [] => some (.own chsL)
  | _ => none
def m_small_changes : List W → Option W := x_small_changes
def s_way_to_small : M Out := (sSeq (sAsg (mTup (mCons (mC (.d c_IDLE)) (mCons (mCall m_hessian_of (mCons (mVar 0) mNil)) mNil))) (gTp 2 (gsCons (gNm 1) (gsCons (gTp 3 (gsCons (gNm 2) (gsCons (gNm 3) (gsCons (gNm 4) gsNil)))) gsNil)))) (sSeq (sWhile 64 (mOr (mTest (mOp fGt (mCall bAbs (mCons (mVar 3) mNil)) (mVar 2))) (mTest (mOp fGt (mVar 2) (mVar 4)))) (sIf (mTest (mOp fGt (mCall bAbs (mCons (mVar 3) mNil)) (mVar 2))) (sSeq (sSet 5 (mUn fNeg (mOp fDiv (mOp fAdd (mVar 3) (mVar 2)) (mOp fMul (mC (.d (.int 2))) (mVar 2))))) (sSeq (sSet 1 (mCall m_joined_in (mCons (mVar 1) (mCons (mTup (mCons (mTup (mCons (mC (.d (.int 1))) (mCons (mC (.d (.int 0))) mNil))) (mCons (mTup (mCons (mVar 5) (mCons (mC (.d (.int 1))) mNil))) mNil))) mNil)))) (sPar 3 4 (mOp fAdd (mVar 3) (mOp fMul (mOp fMul (mC (.d (.int 2))) (mVar 5)) (mVar 2))) (mOp fAdd (mOp fAdd (mVar 4) (mOp fMul (mVar 5) (mVar 3))) (mOp fMul (mOp fMul (mVar 5) (mVar 5)) (mVar 2)))))) (sSeq (sSet 1 (mCall m_joined_in (mCons (mVar 1) (mCons (mC (.d c_SWAPPED)) mNil)))) (sPar3 2 3 4 (mVar 4) (mUn fNeg (mVar 3)) (mVar 2))))) (sRet (mIf (mTest (mOp fLt (mVar 3) (mC (.d (.int 0))))) (mCall m_joined_in (mCons (mVar 1) (mCons (mC (.d c_MIRRORED)) mNil))) (mVar 1)))))
def m_way_to_small : List W → Option W := mFn 6 s_way_to_small
def s_led_above : M Out := (sSeq (sSet 1 (mCall m_way_to_small (mCons (mVar 0) mNil))) (sSeq (sSet 2 (mCall m_form_led (mCons (mVar 0) (mCons (mVar 1) mNil)))) (sSeq (sSet 3 (mCall m_hessian_of (mCons (mVar 2) mNil))) (sSeq (sPar 5 6 (mVar 2) (mC (.d c_IDLE))) (sSeq (sFor (itL (mCall m_small_changes mNil)) (gNm 4) (sSeq (sSet 7 (mCall m_form_led (mCons (mVar 2) (mCons (mVar 4) mNil)))) (sIf (mAnd (mTest (mOp fGt (mVar 7) (mVar 5))) (mTest (mOp fEq (mCall m_hessian_of (mCons (mVar 7) mNil)) (mVar 3)))) (sPar 5 6 (mVar 7) (mVar 4)) sNx))) (sRet (mTup (mCons (mVar 5) (mCons (mCall m_joined_in (mCons (mVar 1) (mCons (mVar 6) mNil))) mNil)))))))))
def o_led_above : List W → Option W := mFn 8 s_led_above
/-- the greatest row with this Hessian, the change to it -/
def ledL (here hess : D) : List D → D → D → Option (D × D)
  | [], f, l => some (f, l)
  | d :: ds, f, l => match m_form_led [.d here, .d d] with
    | some (.d o) => (match fGt (.d o) (.d f) with
      | some (.d (.bl true)) => (match m_hessian_of [.d o] with
        | some (.d e) => (match fEq (.d e) (.d hess) with
          | some (.d (.bl true)) => ledL here hess ds o d
          | some (.d (.bl false)) => ledL here hess ds f l
          | _ => none)
        | _ => none)
      | some (.d (.bl false)) => ledL here hess ds f l
      | _ => none)
    | _ => none
def ledF (row : D) : Option W := match m_way_to_small [.d row] with
  | some (.d way) => (match m_form_led [.d row, .d way] with
    | some (.d here) => (match m_hessian_of [.d here] with
      | some (.d hess) => (match ledL here hess chsL here c_IDLE with
        | some (f, l) => (match m_joined_in [.d way, .d l] with
          | some (.d j) => some (.d (.tup [f, j]))
          | _ => none)
        | none => none)
      | _ => none)
    | _ => none)
  | _ => none
def x_led_above : List W → Option W
  | [.d (.tup [.int a, .int b, .int c, .int d])] => frc a fun a => frc b fun b => frc c fun c => frc d fun d => ledF (.tup [.int a, .int b, .int c, .int d])
  | _ => none
abbrev envL (row way here hess : D) (x4 : Option D) (f l : D) (x7 : Option D) : DL.Env := [some (.d row), some (.d way), some (.d here), some (.d hess), x4.map W.d, some (.d f), some (.d l), x7.map W.d]
abbrev bodyL : M Out := (sSeq (sSet 7 (mCall m_form_led (mCons (mVar 2) (mCons (mVar 4) mNil)))) (sIf (mAnd (mTest (mOp fGt (mVar 7) (mVar 5))) (mTest (mOp fEq (mCall m_hessian_of (mCons (mVar 7) mNil)) (mVar 3)))) (sPar 5 6 (mVar 7) (mVar 4)) sNx))
def m_led_above : List W → Option W := x_led_above
def s_least_of : M Out := (sSeq (sSet 1 (mCall m_discriminant_of (mCons (mVar 0) mNil))) (sSeq (sIf (mTest (mOp fEq (mVar 1) (mC (.d (.int 0))))) (sRet mNone) sNx) (sRet (mIf (mTest (mOp fGt (mVar 1) (mC (.d (.int 0))))) (mCall m_led_above (mCons (mVar 0) mNil)) mNone))))
def m_least_of : List W → Option W := mFn 2 s_least_of
def s_least_row : M Out := (sRet (mOp fIx (mCall m_least_of (mCons (mVar 0) mNil)) (mC (.d (.int 0)))))
def o_least_row : List W → Option W := mFn 1 s_least_row
def m_least_row : List W → Option W := strict o_least_row
def s_least_made : M Out := (sRet (mCall m_made_form (mCons (mCall m_least_row (mCons (mVar 0) mNil)) mNil)))
def m_least_made : List W → Option W := mFn 1 s_least_made
def s_require_short : M Out := (sIf (mTest (mCall bAnyB (mCons (mLc (itT (mVar 0)) [1] (gNm 1) mYes (mOp fGe (mCall bAbs (mCons (mVar 1) mNil)) (mOp fPow (mC (.d (.int 10))) (mC (.d (.int 20)))))) mNil))) sNone sNx)
def m_require_short : List W → Option W := mFn 2 s_require_short
def s_is_least : M Out := (sSeq (sDrop (mCall m_require_form (mCons (mVar 0) mNil))) (sSeq (sDrop (mCall m_require_short (mCons (mUn (fSlot .fm) (mVar 0)) mNil))) (sRet (mOp fEq (mOp fIx (mCall m_least_of (mCons (mUn (fSlot .fm) (mVar 0)) mNil)) (mC (.d (.int 0)))) (mUn (fSlot .fm) (mVar 0))))))
def m_is_least : List W → Option W := mFn 1 s_is_least
def s_least_form : M Out := (sSeq (sDrop (mCall m_require_form (mCons (mVar 0) mNil))) (sSeq (sDrop (mCall m_require_short (mCons (mUn (fSlot .fm) (mVar 0)) mNil))) (sRet (mCall m_least_made (mCons (mUn (fSlot .fm) (mVar 0)) mNil)))))
def m_least_form : List W → Option W := mFn 1 s_least_form
def s_places_at : M Out := (sRet (mCall bSorted (mCons (mLst (mCons (mC (.d c_END_steps)) (mStar (mLc (itR1 (mVar 0)) [1] (gNm 1) mYes (mTup (mCons (mVar 1) (mCons (mC (.d (.int 1))) mNil)))) mNil))) mNil)))
def m_places_at : List W → Option W := mFn 2 s_places_at
def s_slope_at : M Out := (sRet (mOp fAdd (mOp fAdd (mOp fMul (mOp fMul (mOp fMul (mC (.d (.int 3))) (mOp fIx (mVar 0) (mC (.d (.int 0))))) (mVar 1)) (mVar 1)) (mOp fMul (mOp fMul (mC (.d (.int 2))) (mOp fIx (mVar 0) (mC (.d (.int 1))))) (mVar 1))) (mOp fIx (mVar 0) (mC (.d (.int 2))))))
def m_slope_at : List W → Option W := mFn 2 s_slope_at
def s_is_heavy : M Out := (sSeq (sIf (mTest (mOp fNe (mOp fMod (mCall m_form_at (mCons (mVar 0) (mCons (mOp fIx (mVar 2) (mC (.d (.int 0)))) (mCons (mOp fIx (mVar 2) (mC (.d (.int 1)))) mNil)))) (mOp fMul (mVar 1) (mVar 1))) (mC (.d (.int 0))))) (sRet (mC (.d (.bl false)))) sNx) (sRet (mOp fEq (mOp fMod (mIf (mTest (mOp fEq (mVar 2) (mC (.d c_END_steps)))) (mOp fIx (mVar 0) (mC (.d (.int 1)))) (mCall m_slope_at (mCons (mVar 0) (mCons (mOp fIx (mVar 2) (mC (.d (.int 0)))) mNil)))) (mVar 1)) (mC (.d (.int 0))))))
def o_is_heavy : List W → Option W := mFn 3 s_is_heavy
def x_is_heavy : List W → Option W
  | [.d (.tup [.int a, .int b, .int c, .int d]), .d (.int p), .d (.tup [.int x, .int y])] => match small a && small b && small c && small d && small p && small x && small y && decide (p ≠ 0) with
    | true => (match decide ((v_form_at a b c d x y).fmod (p * p) = 0) with
      | true => (match decide (x = 1) && decide (y = 0) with
        | true => some (.d (.bl (b.fmod p == 0)))
        | false => some (.d (.bl ((3 * a * x * x + 2 * b * x + c).fmod p == 0))))
      | false => some (.d (.bl false)))
    | false => none
  | _ => none
def m_is_heavy : List W → Option W := x_is_heavy
def s_is_divided : M Out := (sRet (mCall bAll (mCons (mLc (itT (mVar 0)) [2] (gNm 2) mYes (mOp fEq (mOp fMod (mVar 2) (mVar 1)) (mC (.d (.int 0))))) mNil)))
def m_is_divided : List W → Option W := mFn 3 s_is_divided
def s_require_stepped : M Out := (sSeq (sDrop (mCall m_require_form (mCons (mVar 0) mNil))) (sSeq (sSet 1 (mCall bAbs (mCons (mProp .fm m_Form_discriminant (mVar 0)) mNil))) (sSeq (sIf (mTest (mOp fEq (mVar 1) (mC (.d (.int 0))))) sNone sNx) (sIf (mTest (mOp fGt (mVar 1) (mC (.d c_MAX_STEPPED)))) sNone sNx))))
def m_require_stepped : List W → Option W := mFn 2 s_require_stepped
def s_double_primes : M Out := (sSeq (sPar 1 2 (mLst mNil) (mC (.d (.int 2)))) (sSeq (sWhile 1000 (mTest (mOp fLe (mOp fMul (mVar 2) (mVar 2)) (mVar 0))) (sSeq (sIf (mTest (mOp fEq (mOp fMod (mVar 0) (mVar 2)) (mC (.d (.int 0))))) (sSeq (sSet 3 (mC (.d (.int 0)))) (sSeq (sWhile 1000 (mTest (mOp fEq (mOp fMod (mVar 0) (mVar 2)) (mC (.d (.int 0))))) (sPar 0 3 (mOp fDiv (mVar 0) (mVar 2)) (mOp fAdd (mVar 3) (mC (.d (.int 1)))))) (sIf (mTest (mOp fGt (mVar 3) (mC (.d (.int 1))))) (sAppend 1 (mVar 2)) sNx))) sNx) (sAug 2 fAdd (mC (.d (.int 1)))))) (sRetV 1)))
def o_double_primes : List W → Option W := mFn 4 s_double_primes
abbrev cD : M Bool := (mTest (mOp fLe (mOp fMul (mVar 2) (mVar 2)) (mVar 0)))
abbrev bD : M Out := (sSeq (sIf (mTest (mOp fEq (mOp fMod (mVar 0) (mVar 2)) (mC (.d (.int 0))))) (sSeq (sSet 3 (mC (.d (.int 0)))) (sSeq (sWhile 1000 (mTest (mOp fEq (mOp fMod (mVar 0) (mVar 2)) (mC (.d (.int 0))))) (sPar 0 3 (mOp fDiv (mVar 0) (mVar 2)) (mOp fAdd (mVar 3) (mC (.d (.int 1)))))) (sIf (mTest (mOp fGt (mVar 3) (mC (.d (.int 1))))) (sAppend 1 (mVar 2)) sNx))) sNx) (sAug 2 fAdd (mC (.d (.int 1)))))
abbrev envD (n p : Nat) : DL.Env := [some (.d (.int (.ofNat n))), some (.own []), some (.d (.int (.ofNat p))), none]
/-- on to the first part that divides n; from there as it stands -/
def skipD (n : Nat) : Nat → Nat → Option Out
  | 0, _ => none
  | k + 1, p => match Nat.ble (p * p) n && !(Nat.beq (n % p) 0) with
    | true => frcN (p + 1) fun p => skipD n k p
    | false => whileN (k + 1) cD bD (envD n p)
def x_double_primes : List W → Option W
  | [.d (.int (.ofNat n))] => match skipD n 1000 2 with
    | some (.nx ρ) => (match sRetV 1 ρ with
      | some (.rt x) => some x
      | _ => none)
    | _ => none
  | _ => none
def m_double_primes : List W → Option W := strict x_double_primes
def s_bar_at : M Out := (sSeq (sIf (mTest (mCall m_is_divided (mCons (mVar 0) (mCons (mVar 1) mNil)))) (sRet (mTup (mCons (mC (.d c_CONTENT)) (mCons (mVar 1) mNil)))) sNx) (sSeq (sSet 2 (mNext (itLC (mCall m_places_at (mCons (mVar 1) mNil))) 2 (mTest (mCall m_is_heavy (mCons (mVar 0) (mCons (mVar 1) (mCons (mVar 2) mNil))))))) (sRet (mIf (mTest (mOp fIsN (mVar 2) (mC (.d .non)))) (mC (.d .non)) (mTup (mCons (mC (.d c_PLACE)) (mCons (mVar 1) (mCons (mVar 2) mNil))))))))
def o_bar_at : List W → Option W := mFn 3 s_bar_at
def rowIn (a b c d p : Int) : Bool := a.fmod p == 0 && (b.fmod p == 0 && (c.fmod p == 0 && d.fmod p == 0))
/-- heavy at (x, 1) -/
def hvAt (a b c d p q x : Int) : Bool := match (((a * x + b) * x + c) * x + d).fmod q == 0 with
  | true => (3 * a * x * x + 2 * b * x + c).fmod p == 0
  | false => false
/-- the first heavy one of (x, 1) and the n - 1 behind it -/
def scanH (a b c d p q : Int) : Nat → Nat → D
  | 0, _ => .non
  | n + 1, x => match hvAt a b c d p q (.ofNat x) with
    | true => .tup [.int (.ofNat x), .int 1]
    | false => frcN (x + 1) fun x => scanH a b c d p q n x
def firstH (a b c d p q : Int) (n : Nat) : D := match hvAt a b c d p q 0 with
  | true => .tup [.int 0, .int 1]
  | false => match a.fmod q == 0 && b.fmod p == 0 with
    | true => .tup [.int 1, .int 0]
    | false => scanH a b c d p q n 1
def barD (p : Int) : D → D
  | .non => .non
  | x => .tup [c_PLACE, .int p, x]
def x_bar_at : List W → Option W
  | [.d (.tup [.int a, .int b, .int c, .int d]), .d (.int (.ofNat p))] => match (small a && small b && small c && small d) && (Nat.ble 1 p && Nat.ble p 990) with
    | true => (match rowIn a b c d (.ofNat p) with
      | true => some (.d (.tup [c_CONTENT, .int (.ofNat p)]))
      | false => frcN (p * p) fun q => frcN (p - 1) fun n => some (.d (barD (.ofNat p) (firstH a b c d (.ofNat p) (.ofNat q) n))))
    | false => none
  | _ => none
/-! the places -/
def plK (x : Int) : Nat → List (List Int)
  | 0 => []
  | n + 1 => [x, 1] :: plK (x + 1) n
def m_bar_at : List W → Option W := x_bar_at
def s_first_bar : M Out := (sRet (mNext (itLC (mLc (itLC (mVar 1)) [3] (gNm 3) mYes (mCall m_bar_at (mCons (mVar 0) (mCons (mVar 3) mNil))))) 2 (mTest (mOp fNotN (mVar 2) (mC (.d .non))))))
def m_first_bar : List W → Option W := mFn 4 s_first_bar
def s_bar : M Out := (sSeq (sDrop (mCall m_require_stepped (mCons (mVar 0) mNil))) (sRet (mCall m_first_bar (mCons (mUn (fSlot .fm) (mVar 0)) (mCons (mCall m_double_primes (mCons (mCall bAbs (mCons (mProp .fm m_Form_discriminant (mVar 0)) mNil)) mNil)) mNil)))))
def m_bar : List W → Option W := mFn 1 s_bar
def s_is_greatest : M Out := (sRet (mOp fIsN (mCall m_bar (mCons (mVar 0) mNil)) (mC (.d .non))))
def o_is_greatest : List W → Option W := mFn 1 s_is_greatest
def m_is_greatest : List W → Option W := strict o_is_greatest
def s_turning_numbers : M Out := (sRet (mTup (mCons (mVar 0) (mCons (mVar 1) (mCons (mOp fSub (mVar 1) (mOp fMul (mC (.d (.int 3))) (mVar 0))) (mCons (mUn fNeg (mVar 0)) mNil))))))
def m_turning_numbers : List W → Option W := mFn 2 s_turning_numbers
def s_is_turning : M Out := (sSeq (sDrop (mCall m_require_form (mCons (mVar 0) mNil))) (sSeq (sSet 1 (mProp .fm m_Form_discriminant (mVar 0))) (sSeq (sIf (mTest (mOp fEq (mVar 1) (mC (.d (.int 0))))) sNone sNx) (sSeq (sSet 2 (mProp .db m_Double_content (mProp .fm m_Form_hessian (mVar 0)))) (sRet (mOp fEq (mOp fMul (mVar 2) (mVar 2)) (mVar 1)))))))
def m_is_turning : List W → Option W := mFn 3 s_is_turning
def s_is_product_of_parts : M Out := (sSeq (sFor (itL (mCall m_factors_in (mCons (mVar 0) mNil))) (gTp 2 (gsCons (gNm 1) (gsCons (gNm 2) gsNil))) (sIf (mOr (mTest (mOp fNe (mVar 2) (mIf (mTest (mOp fEq (mVar 1) (mC (.d (.int 3))))) (mC (.d (.int 2))) (mC (.d (.int 1)))))) (mTest (mOp fEq (mOp fMod (mVar 1) (mC (.d (.int 3)))) (mC (.d (.int 2)))))) (sRet (mC (.d (.bl false)))) sNx)) (sRet (mOp fGt (mVar 0) (mC (.d (.int 1))))))
def o_is_product_of_parts : List W → Option W := mFn 3 s_is_product_of_parts
def m_is_product_of_parts : List W → Option W := strict o_is_product_of_parts
def s_turning_forms_of : M Out := (sSeq (sPar 2 3 (mLst mNil) (mCall bSqrt (mCons (mOp fDiv (mOp fMul (mC (.d (.int 4))) (mVar 0)) (mC (.d (.int 27)))) mNil))) (sSeq (sFor (itR2 (mUn fNeg (mVar 3)) (mOp fAdd (mVar 3) (mC (.d (.int 1))))) (gNm 1) (sSeq (sSet 4 (mOp fSub (mOp fMul (mC (.d (.int 4))) (mVar 0)) (mOp fMul (mOp fMul (mC (.d (.int 27))) (mVar 1)) (mVar 1)))) (sSeq (sSet 5 (mCall bSqrt (mCons (mVar 4) mNil))) (sIf (mAnd (mTest (mOp fEq (mOp fMul (mVar 5) (mVar 5)) (mVar 4))) (mTest (mOp fEq (mOp fMod (mOp fAdd (mVar 5) (mOp fMul (mC (.d (.int 3))) (mVar 1))) (mC (.d (.int 2)))) (mC (.d (.int 0)))))) (sExtend 2 (mLc (itT (mTup (mCons (mC (.d (.int 1))) (mCons (mUn fNeg (mC (.d (.int 1)))) mNil)))) [6] (gNm 6) mYes (mMake .fm m_Form_init_ (mCons (mCall m_turning_numbers (mCons (mVar 1) (mCons (mOp fDiv (mOp fAdd (mOp fMul (mVar 6) (mVar 5)) (mOp fMul (mC (.d (.int 3))) (mVar 1))) (mC (.d (.int 2)))) mNil))) mNil)))) sNx)))) (sRetV 2)))
def o_turning_forms_of : List W → Option W := mFn 7 s_turning_forms_of
def m_turning_forms_of : List W → Option W := strict o_turning_forms_of
def s_square_fields : M Out := (sSeq (sDrop (mCall m_require_within (mCons (mVar 0) (mCons (mC (.d (.int 1))) (mCons (mC (.d c_MAX_CONDUCTOR)) mNil))))) (sSeq (sIf (mNot (mTest (mCall m_is_product_of_parts (mCons (mVar 0) mNil)))) (sRet (mTup mNil)) sNx) (sSeq (sSet 1 (mLc (itLC (mCall m_turning_forms_of (mCons (mVar 0) mNil))) [3] (gNm 3) (mAnd (mTest (mOp fEq (mProp .fm m_Form_roots (mVar 3)) (mTup mNil))) (mTest (mCall m_is_greatest (mCons (mVar 3) mNil)))) (mVar 3))) (sSeq (sSet 2 (mSc (itLC (mVar 1)) [3] (gNm 3) mYes (mProp .fm m_Form_coefficients (mCall m_least_form (mCons (mVar 3) mNil))))) (sRet (mCall bTup (mCons (mLc (itLC (mCall bSorted (mCons (mVar 2) mNil))) [4] (gNm 4) mYes (mMake .fm m_Form_init_ (mCons (mVar 4) mNil))) mNil)))))))
def o_square_fields : List W → Option W := mFn 5 s_square_fields
def m_square_fields : List W → Option W := strict o_square_fields
def s__law_root : M Out := (sSeq (sIf (mTest (mOp fLt (mVar 0) (mC (.d (.int 2))))) (sRetV 0) sNx) (sSeq (sSet 1 (mC (.d (.int 1)))) (sSeq (sWhile 64 (mTest (mOp fLe (mOp fMul (mVar 1) (mVar 1)) (mVar 0))) (sSet 1 (mOp fMul (mVar 1) (mC (.d (.int 2)))))) (sSeq (sFor (itR1 (mC (.d (.int 600)))) (gNm 2) (sSeq (sSet 3 (mOp fDiv (mOp fAdd (mVar 1) (mOp fDiv (mVar 0) (mVar 1))) (mC (.d (.int 2))))) (sSeq (sIf (mTest (mOp fGe (mVar 3) (mVar 1))) sBk sNx) (sSet 1 (mVar 3))))) (sRetV 1)))))
def o__law_root : List W → Option W := mFn 4 s__law_root
def upF (n : Nat) : Nat → Nat → Option Nat
  | 0, _ => none
  | k + 1, v => match Nat.ble (v * v) n with
    | true => frcN (v * 2) fun v => upF n k v
    | false => some v
def newtF (n : Nat) : Nat → Nat → Option Nat
  | 0, v => some v
  | k + 1, v => match Nat.ble 1 v && Nat.ble v 2000 with
    | true => frcN ((v + n / v) / 2) fun u => (match Nat.ble v u with
      | true => some v
      | false => newtF n k u)
    | false => none
def x__law_root : List W → Option W
  | [.d (.int (.ofNat n))] => match Nat.ble n 1000000 with
    | true => (match Nat.blt n 2 with
      | true => some (.d (.int (.ofNat n)))
      | false => (match upF n 64 1 with
        | some v => (match newtF n 600 v with
          | some r => some (.d (.int (.ofNat r)))
          | none => none)
        | none => none))
    | false => none
  | _ => none
def m__law_root : List W → Option W := strict x__law_root
def s__law_turning : M Out := (sRet (mTup (mCons (mVar 0) (mCons (mVar 1) (mCons (mOp fSub (mVar 1) (mOp fMul (mC (.d (.int 3))) (mVar 0))) (mCons (mOp fSub (mC (.d (.int 0))) (mVar 0)) mNil))))))
def m__law_turning : List W → Option W := mFn 2 s__law_turning
def s__law_parts_of : M Out := (sSeq (sPar3 1 2 3 (mCall bInt (mCons (mVar 0) mNil)) (mC (.d (.int 0))) (mC (.d (.int 2)))) (sSeq (sWhile 400 (mTest (mOp fGt (mVar 1) (mC (.d (.int 1))))) (sSeq (sSet 4 (mC (.d (.int 0)))) (sSeq (sWhile 400 (mTest (mOp fEq (mOp fMod (mVar 1) (mVar 3)) (mC (.d (.int 0))))) (sPar 1 4 (mOp fDiv (mVar 1) (mVar 3)) (mOp fAdd (mVar 4) (mC (.d (.int 1)))))) (sSeq (sIf (mTest (mOp fGt (mVar 4) (mC (.d (.int 0))))) (sSeq (sIf (mOr (mTest (mOp fNe (mVar 4) (mIf (mTest (mOp fEq (mVar 3) (mC (.d (.int 3))))) (mC (.d (.int 2))) (mC (.d (.int 1)))))) (mTest (mOp fEq (mOp fMod (mVar 3) (mC (.d (.int 3)))) (mC (.d (.int 2)))))) (sRet (mC (.d (.int 0)))) sNx) (sSet 2 (mOp fAdd (mVar 2) (mC (.d (.int 1)))))) sNx) (sSet 3 (mOp fAdd (mVar 3) (mC (.d (.int 1))))))))) (sRetV 2)))
def o__law_parts_of : List W → Option W := mFn 5 s__law_parts_of
abbrev cP : M Bool := (mTest (mOp fGt (mVar 1) (mC (.d (.int 1)))))
abbrev bP : M Out := (sSeq (sSet 4 (mC (.d (.int 0)))) (sSeq (sWhile 400 (mTest (mOp fEq (mOp fMod (mVar 1) (mVar 3)) (mC (.d (.int 0))))) (sPar 1 4 (mOp fDiv (mVar 1) (mVar 3)) (mOp fAdd (mVar 4) (mC (.d (.int 1)))))) (sSeq (sIf (mTest (mOp fGt (mVar 4) (mC (.d (.int 0))))) (sSeq (sIf (mOr (mTest (mOp fNe (mVar 4) (mIf (mTest (mOp fEq (mVar 3) (mC (.d (.int 3))))) (mC (.d (.int 2))) (mC (.d (.int 1)))))) (mTest (mOp fEq (mOp fMod (mVar 3) (mC (.d (.int 3)))) (mC (.d (.int 2)))))) (sRet (mC (.d (.int 0)))) sNx) (sSet 2 (mOp fAdd (mVar 2) (mC (.d (.int 1)))))) sNx) (sSet 3 (mOp fAdd (mVar 3) (mC (.d (.int 1))))))))
abbrev envP (c p : Nat) (x : Option W) : DL.Env := [some (.d (.int (.ofNat c))), some (.d (.int (.ofNat c))), some (.d (.int 0)), some (.d (.int (.ofNat p))), x]
/-- on to the first part that divides c; from there as it stands -/
def skipF (c : Nat) : Nat → Nat → Option W → Option Out
  | 0, _, _ => none
  | k + 1, p, x => match Nat.beq (c % p) 0 with
    | true => whileN (k + 1) cP bP (envP c p x)
    | false => frcN (p + 1) fun p => skipF c k p (some (.d (.int 0)))
def x__law_parts_of : List W → Option W
  | [.d (.int (.ofNat c))] => match Nat.ble 2 c with
    | true => (match skipF c 400 2 none with
      | some (.nx ρ) => (match sRetV 2 ρ with
        | some (.rt x) => some x
        | _ => none)
      | some (.rt x) => some x
      | _ => none)
    | false => o__law_parts_of [.d (.int (.ofNat c))]
  | _ => none
def m__law_parts_of : List W → Option W := strict x__law_parts_of
def s__law_pairs : M Out := (sSeq (sSet 1 (mLst mNil)) (sSeq (sFor (itR2 (mUn fNeg (mC (.d (.int 7)))) (mC (.d (.int 8)))) (gNm 2) (sSeq (sSet 3 (mOp fSub (mOp fMul (mC (.d (.int 4))) (mVar 0)) (mOp fMul (mOp fMul (mC (.d (.int 27))) (mVar 2)) (mVar 2)))) (sSeq (sSet 4 (mCall m__law_root (mCons (mCall bMax2 (mCons (mC (.d (.int 0))) (mCons (mVar 3) mNil))) mNil))) (sIf (mAnd (mTest (mOp fGe (mVar 3) (mC (.d (.int 0))))) (mAnd (mTest (mOp fEq (mOp fMul (mVar 4) (mVar 4)) (mVar 3))) (mTest (mOp fEq (mOp fMod (mCall bInt (mCons (mOp fAdd (mVar 4) (mOp fMul (mC (.d (.int 3))) (mVar 2))) mNil)) (mC (.d (.int 2)))) (mC (.d (.int 0))))))) (sExtend 1 (mLst (mCons (mTup (mCons (mVar 2) (mCons (mOp fDiv (mOp fAdd (mOp fMul (mC (.d (.int 3))) (mVar 2)) (mVar 4)) (mC (.d (.int 2)))) mNil))) (mCons (mTup (mCons (mVar 2) (mCons (mOp fDiv (mOp fSub (mOp fMul (mC (.d (.int 3))) (mVar 2)) (mVar 4)) (mC (.d (.int 2)))) mNil))) mNil)))) sNx)))) (sRetV 1)))
def o__law_pairs : List W → Option W := mFn 5 s__law_pairs
def m__law_pairs : List W → Option W := strict o__law_pairs
def s__law_is_right : M Out := (sSeq (sPar 7 8 (mCall m_square_fields (mCons (mVar 0) mNil)) (mCall m__law_parts_of (mCons (mVar 0) mNil))) (sSeq (sSet 1 (mC (.d (.int 0)))) (sSeq (sFor (itR1 (mVar 8)) (gNm 2) (sSet 1 (mIf (mTest (mOp fGt (mVar 1) (mC (.d (.int 0))))) (mOp fMul (mC (.d (.int 2))) (mVar 1)) (mC (.d (.int 1)))))) (sSeq (sIf (mOr (mNot (mTest (mUn (fIsB .tuple) (mVar 7)))) (mTest (mOp fNe (mCall bLen (mCons (mVar 7) mNil)) (mVar 1)))) (sRet (mC (.d (.bl false)))) sNx) (sSeq (sSet 3 (mLc (itT (mVar 7)) [4] (gNm 4) mYes (mProp .fm m_Form_coefficients (mVar 4)))) (sSeq (sIf (mTest (mOp fNe (mVar 3) (mCall bSorted (mCons (mCall bSet (mCons (mVar 3) mNil)) mNil)))) (sRet (mC (.d (.bl false)))) sNx) (sSeq (sFor (itT (mVar 7)) (gNm 4) (sSeq (sIf (mOr (mTest (mOp fNe (mProp .fm m_Form_discriminant (mVar 4)) (mOp fMul (mVar 0) (mVar 0)))) (mOr (mNot (mTest (mCall m_is_least (mCons (mVar 4) mNil)))) (mTest (mOp fNe (mProp .fm m_Form_roots (mVar 4)) (mTup mNil))))) (sRet (mC (.d (.bl false)))) sNx) (sIf (mOr (mNot (mTest (mCall m_is_greatest (mCons (mVar 4) mNil)))) (mNot (mTest (mCall m_is_turning (mCons (mVar 4) mNil))))) (sRet (mC (.d (.bl false)))) sNx))) (sSeq (sSet 5 (mLc (itLC (mCall m__law_pairs (mCons (mVar 0) mNil))) [9, 10] (gTp 2 (gsCons (gNm 9) (gsCons (gNm 10) gsNil))) mYes (mMake .fm m_Form_init_ (mCons (mCall m__law_turning (mCons (mVar 9) (mCons (mVar 10) mNil))) mNil)))) (sSeq (sSet 6 (mLc (itLC (mVar 5)) [4] (gNm 4) (mAnd (mTest (mOp fEq (mProp .fm m_Form_roots (mVar 4)) (mTup mNil))) (mTest (mCall m_is_greatest (mCons (mVar 4) mNil)))) (mProp .fm m_Form_coefficients (mCall m_least_form (mCons (mVar 4) mNil))))) (sRet (mOp fEq (mCall bSorted (mCons (mCall bSet (mCons (mVar 6) mNil)) mNil)) (mVar 3))))))))))))
def m__law_is_right : List W → Option W := mFn 11 s__law_is_right
end F79
set_option Elab.async false
set_option linter.all false
set_option maxRecDepth 100000
set_option maxHeartbeats 4000000
set_option exponentiation.threshold 5000
namespace F79
open PySem PySem.Spec PyProof.Rows L2 DL
section
variable {a b c d : M W} {ρ : DL.Env} {x y z u : D}
theorem tup2 (ha : a ρ = some (.d x)) (hb : b ρ = some (.d y)) : mTup (mCons a (mCons b mNil)) ρ = some (.d (.tup [x, y])) := by
  unfold mTup mCons mNil
  rw [ha, hb]
  rfl
theorem tup3 (ha : a ρ = some (.d x)) (hb : b ρ = some (.d y)) (hc : c ρ = some (.d z)) : mTup (mCons a (mCons b (mCons c mNil))) ρ = some (.d (.tup [x, y, z])) := by
  unfold mTup mCons mNil
  rw [ha, hb, hc]
  rfl
theorem tup4 (ha : a ρ = some (.d x)) (hb : b ρ = some (.d y)) (hc : c ρ = some (.d z)) (hd : d ρ = some (.d u)) : mTup (mCons a (mCons b (mCons c (mCons d mNil)))) ρ = some (.d (.tup [x, y, z, u])) := by
  unfold mTup mCons mNil
  rw [ha, hb, hc, hd]
  rfl
theorem ret_of {m : M W} (h : m ρ = some (.d x)) : sRet m ρ = some (.rt (.d x)) := by
  unfold sRet
  rw [h]
  rfl
theorem fn_ret {N : Nat} {s : M Out} {ws : List W} {m : M W} (h : s (env0 N ws) = sRet m ρ) (e : m ρ = some (.d x)) : mFn N s ws = some (.d x) := by
  unfold mFn
  rw [h, ret_of e]
theorem set_ie {i : Nat} {m : M W} (h : m ρ = some (.d x)) : sSet i m ρ = some (.nx (ρ.set i (some (.d x)))) := by
  unfold sSet
  rw [h]
  rfl
theorem seq_nx {s t : M Out} {ρ' : DL.Env} (h : s ρ = some (.nx ρ')) : sSeq s t ρ = t ρ' := by
  unfold sSeq
  rw [h]
end
theorem weak_form_at (ws : List W) (r : W) (h : x_form_at ws = some r) : o_form_at ws = some r := by
  unfold x_form_at at h
  split at h
  · rename_i a b c d x y
    split at h
    · rename_i hs
      simp only [frc_eq] at h
      cases h
      simp only [Bool.and_eq_true] at hs
      obtain ⟨⟨⟨⟨⟨h_x, h_y⟩, h_a⟩, h_b⟩, h_c⟩, h_d⟩ := hs
      let ρ0 : DL.Env := [some (.d (.tup [.int a, .int b, .int c, .int d])), some (.d (.int x)), some (.d (.int y)), some (.d (.int a)), some (.d (.int b)), some (.d (.int c)), some (.d (.int d))]
      have f_x : isAt (mVar 1) 100 x ρ0 := ⟨by decide, rfl, small_ok h_x⟩
      have f_y : isAt (mVar 2) 100 y ρ0 := ⟨by decide, rfl, small_ok h_y⟩
      have f_a : isAt (mVar 3) 100 a ρ0 := ⟨by decide, rfl, small_ok h_a⟩
      have f_b : isAt (mVar 4) 100 b ρ0 := ⟨by decide, rfl, small_ok h_b⟩
      have f_c : isAt (mVar 5) 100 c ρ0 := ⟨by decide, rfl, small_ok h_c⟩
      have f_d : isAt (mVar 6) 100 d ρ0 := ⟨by decide, rfl, small_ok h_d⟩
      have r_0 := (IE.run (ρ := ρ0) (.add (.mul (.add (.mul (.add (.mul (.x (mVar 3) 100 a) (.x (mVar 1) 100 x)) (.mul (.x (mVar 4) 100 b) (.x (mVar 2) 100 y))) (.x (mVar 1) 100 x)) (.mul (.mul (.x (mVar 5) 100 c) (.x (mVar 2) 100 y)) (.x (mVar 2) 100 y))) (.x (mVar 1) 100 x)) (.mul (.mul (.mul (.x (mVar 6) 100 d) (.x (mVar 2) 100 y)) (.x (mVar 2) 100 y)) (.x (mVar 2) 100 y))) ⟨⟨⟨⟨⟨⟨f_a, f_x⟩, ⟨f_b, f_y⟩⟩, f_x⟩, ⟨⟨f_c, f_y⟩, f_y⟩⟩, f_x⟩, ⟨⟨⟨f_d, f_y⟩, f_y⟩, f_y⟩⟩ (show (403 : Nat) ≤ 10000 by decide)).1
      exact fn_ret (s := s_form_at) (ρ := ρ0) rfl r_0
    · cases h
  · cases h
theorem at_val {a b c d p q : Int} (ha : small a = true) (hb : small b = true) (hc : small c = true) (hd : small d = true) (hp : small p = true) (hq : small q = true) : m_form_at [.d (.tup [.int a, .int b, .int c, .int d]), .d (.int p), .d (.int q)] = some (.d (.int (v_form_at a b c d p q))) := by
  show x_form_at _ = _
  unfold x_form_at
  simp only [ha, hb, hc, hd, hp, hq, Bool.and_self, frc_eq]
theorem at_bd {a b c d p q : Int} (ha : small a = true) (hb : small b = true) (hc : small c = true) (hd : small d = true) (hp : small p = true) (hq : small q = true) : (v_form_at a b c d p q).natAbs < 2 ^ 403 := by
  have k : ∀ {i : Int}, small i = true → isAt (mC (.d (.int i))) 100 i [] := fun h => ⟨by decide, rfl, small_ok h⟩
  exact (IE.run (ρ := []) (.add (.mul (.add (.mul (.add (.mul (.x (mC (.d (.int a))) 100 a) (.x (mC (.d (.int p))) 100 p)) (.mul (.x (mC (.d (.int b))) 100 b) (.x (mC (.d (.int q))) 100 q))) (.x (mC (.d (.int p))) 100 p)) (.mul (.mul (.x (mC (.d (.int c))) 100 c) (.x (mC (.d (.int q))) 100 q)) (.x (mC (.d (.int q))) 100 q))) (.x (mC (.d (.int p))) 100 p)) (.mul (.mul (.mul (.x (mC (.d (.int d))) 100 d) (.x (mC (.d (.int q))) 100 q)) (.x (mC (.d (.int q))) 100 q)) (.x (mC (.d (.int q))) 100 q)))
    ⟨⟨⟨⟨⟨⟨k ha, k hp⟩, k hb, k hq⟩, k hp⟩, ⟨k hc, k hq⟩, k hq⟩, k hp⟩, ⟨⟨k hd, k hq⟩, k hq⟩, k hq⟩ (show (403 : Nat) ≤ 10000 by decide)).2

theorem weak_form_led (ws : List W) (r : W) (h : x_form_led ws = some r) : o_form_led ws = some r := by
  unfold x_form_led at h
  split at h
  · rename_i a b c d p q r s
    split at h
    · rename_i hs
      simp only [frc_eq] at h
      cases h
      simp only [Bool.and_eq_true] at hs
      obtain ⟨⟨⟨⟨⟨⟨⟨h_a, h_b⟩, h_c⟩, h_d⟩, h_p⟩, h_q⟩, h_r⟩, h_s⟩ := hs
      let ρ0 : DL.Env := [some (.d (.tup [.int a, .int b, .int c, .int d])), some (.d (.tup [.tup [.int p, .int q], .tup [.int r, .int s]])), none, none, none, some (.d (.int a)), some (.d (.int b)), some (.d (.int c)), some (.d (.int d)), some (.d (.int p)), some (.d (.int q)), some (.d (.int r)), some (.d (.int s))]
      have f_a : isAt (mVar 5) 100 a ρ0 := ⟨by decide, rfl, small_ok h_a⟩
      have f_b : isAt (mVar 6) 100 b ρ0 := ⟨by decide, rfl, small_ok h_b⟩
      have f_c : isAt (mVar 7) 100 c ρ0 := ⟨by decide, rfl, small_ok h_c⟩
      have f_d : isAt (mVar 8) 100 d ρ0 := ⟨by decide, rfl, small_ok h_d⟩
      have f_p : isAt (mVar 9) 100 p ρ0 := ⟨by decide, rfl, small_ok h_p⟩
      have f_q : isAt (mVar 10) 100 q ρ0 := ⟨by decide, rfl, small_ok h_q⟩
      have f_r : isAt (mVar 11) 100 r ρ0 := ⟨by decide, rfl, small_ok h_r⟩
      have f_s : isAt (mVar 12) 100 s ρ0 := ⟨by decide, rfl, small_ok h_s⟩
      have e_sense := IE.run (ρ := ρ0) (.sub (.mul (.x (mVar 9) 100 p) (.x (mVar 12) 100 s)) (.mul (.x (mVar 10) 100 q) (.x (mVar 11) 100 r))) ⟨⟨f_p, f_s⟩, ⟨f_q, f_r⟩⟩ (show (201 : Nat) ≤ 10000 by decide)
      have b_sense : (((p * s) - (q * r)) : Int).natAbs < 2 ^ 201 := e_sense.2
      have s_0 : sSet 2 (IE.m (.sub (.mul (.x (mVar 9) 100 p) (.x (mVar 12) 100 s)) (.mul (.x (mVar 10) 100 q) (.x (mVar 11) 100 r)))) ρ0 = some (.nx (ρ0.set 2 (some (.d (.int ((p * s) - (q * r))))))) := set_ie e_sense.1
      generalize ((p * s) - (q * r)) = sense at b_sense s_0 ⊢
      let ρ1 : DL.Env := [some (.d (.tup [.int a, .int b, .int c, .int d])), some (.d (.tup [.tup [.int p, .int q], .tup [.int r, .int s]])), some (.d (.int sense)), none, none, some (.d (.int a)), some (.d (.int b)), some (.d (.int c)), some (.d (.int d)), some (.d (.int p)), some (.d (.int q)), some (.d (.int r)), some (.d (.int s))]
      have f_a : isAt (mVar 5) 100 a ρ1 := ⟨by decide, rfl, small_ok h_a⟩
      have f_b : isAt (mVar 6) 100 b ρ1 := ⟨by decide, rfl, small_ok h_b⟩
      have f_c : isAt (mVar 7) 100 c ρ1 := ⟨by decide, rfl, small_ok h_c⟩
      have f_d : isAt (mVar 8) 100 d ρ1 := ⟨by decide, rfl, small_ok h_d⟩
      have f_p : isAt (mVar 9) 100 p ρ1 := ⟨by decide, rfl, small_ok h_p⟩
      have f_q : isAt (mVar 10) 100 q ρ1 := ⟨by decide, rfl, small_ok h_q⟩
      have f_r : isAt (mVar 11) 100 r ρ1 := ⟨by decide, rfl, small_ok h_r⟩
      have f_s : isAt (mVar 12) 100 s ρ1 := ⟨by decide, rfl, small_ok h_s⟩
      have f_sense : isAt (mVar 2) 201 sense ρ1 := ⟨by decide, rfl, b_sense⟩
      have e_second := IE.run (ρ := ρ1) (.add (.add (.add (.mul (.mul (.mul (.mul (.c 3) (.x (mVar 5) 100 a)) (.x (mVar 9) 100 p)) (.x (mVar 9) 100 p)) (.x (mVar 11) 100 r)) (.mul (.x (mVar 6) 100 b) (.add (.mul (.mul (.x (mVar 9) 100 p) (.x (mVar 9) 100 p)) (.x (mVar 12) 100 s)) (.mul (.mul (.mul (.c 2) (.x (mVar 9) 100 p)) (.x (mVar 10) 100 q)) (.x (mVar 11) 100 r))))) (.mul (.x (mVar 7) 100 c) (.add (.mul (.mul (.mul (.c 2) (.x (mVar 9) 100 p)) (.x (mVar 10) 100 q)) (.x (mVar 12) 100 s)) (.mul (.mul (.x (mVar 10) 100 q) (.x (mVar 10) 100 q)) (.x (mVar 11) 100 r))))) (.mul (.mul (.mul (.mul (.c 3) (.x (mVar 8) 100 d)) (.x (mVar 10) 100 q)) (.x (mVar 10) 100 q)) (.x (mVar 12) 100 s))) ⟨⟨⟨⟨⟨⟨⟨(show (3 : Int).natAbs < 2 ^ 100 by decide), f_a⟩, f_p⟩, f_p⟩, f_r⟩, ⟨f_b, ⟨⟨⟨f_p, f_p⟩, f_s⟩, ⟨⟨⟨(show (2 : Int).natAbs < 2 ^ 100 by decide), f_p⟩, f_q⟩, f_r⟩⟩⟩⟩, ⟨f_c, ⟨⟨⟨⟨(show (2 : Int).natAbs < 2 ^ 100 by decide), f_p⟩, f_q⟩, f_s⟩, ⟨⟨f_q, f_q⟩, f_r⟩⟩⟩⟩, ⟨⟨⟨⟨(show (3 : Int).natAbs < 2 ^ 100 by decide), f_d⟩, f_q⟩, f_q⟩, f_s⟩⟩ (show (504 : Nat) ≤ 10000 by decide)
      have b_second : ((((((((3 * a) * p) * p) * r) + (b * (((p * p) * s) + (((2 * p) * q) * r)))) + (c * ((((2 * p) * q) * s) + ((q * q) * r)))) + ((((3 * d) * q) * q) * s)) : Int).natAbs < 2 ^ 504 := e_second.2
      have s_1 : sSet 3 (IE.m (.add (.add (.add (.mul (.mul (.mul (.mul (.c 3) (.x (mVar 5) 100 a)) (.x (mVar 9) 100 p)) (.x (mVar 9) 100 p)) (.x (mVar 11) 100 r)) (.mul (.x (mVar 6) 100 b) (.add (.mul (.mul (.x (mVar 9) 100 p) (.x (mVar 9) 100 p)) (.x (mVar 12) 100 s)) (.mul (.mul (.mul (.c 2) (.x (mVar 9) 100 p)) (.x (mVar 10) 100 q)) (.x (mVar 11) 100 r))))) (.mul (.x (mVar 7) 100 c) (.add (.mul (.mul (.mul (.c 2) (.x (mVar 9) 100 p)) (.x (mVar 10) 100 q)) (.x (mVar 12) 100 s)) (.mul (.mul (.x (mVar 10) 100 q) (.x (mVar 10) 100 q)) (.x (mVar 11) 100 r))))) (.mul (.mul (.mul (.mul (.c 3) (.x (mVar 8) 100 d)) (.x (mVar 10) 100 q)) (.x (mVar 10) 100 q)) (.x (mVar 12) 100 s)))) ρ1 = some (.nx (ρ1.set 3 (some (.d (.int (((((((3 * a) * p) * p) * r) + (b * (((p * p) * s) + (((2 * p) * q) * r)))) + (c * ((((2 * p) * q) * s) + ((q * q) * r)))) + ((((3 * d) * q) * q) * s))))))) := set_ie e_second.1
      generalize (((((((3 * a) * p) * p) * r) + (b * (((p * p) * s) + (((2 * p) * q) * r)))) + (c * ((((2 * p) * q) * s) + ((q * q) * r)))) + ((((3 * d) * q) * q) * s)) = second at b_second s_1 ⊢
      let ρ2 : DL.Env := [some (.d (.tup [.int a, .int b, .int c, .int d])), some (.d (.tup [.tup [.int p, .int q], .tup [.int r, .int s]])), some (.d (.int sense)), some (.d (.int second)), none, some (.d (.int a)), some (.d (.int b)), some (.d (.int c)), some (.d (.int d)), some (.d (.int p)), some (.d (.int q)), some (.d (.int r)), some (.d (.int s))]
      have f_a : isAt (mVar 5) 100 a ρ2 := ⟨by decide, rfl, small_ok h_a⟩
      have f_b : isAt (mVar 6) 100 b ρ2 := ⟨by decide, rfl, small_ok h_b⟩
      have f_c : isAt (mVar 7) 100 c ρ2 := ⟨by decide, rfl, small_ok h_c⟩
      have f_d : isAt (mVar 8) 100 d ρ2 := ⟨by decide, rfl, small_ok h_d⟩
      have f_p : isAt (mVar 9) 100 p ρ2 := ⟨by decide, rfl, small_ok h_p⟩
      have f_q : isAt (mVar 10) 100 q ρ2 := ⟨by decide, rfl, small_ok h_q⟩
      have f_r : isAt (mVar 11) 100 r ρ2 := ⟨by decide, rfl, small_ok h_r⟩
      have f_s : isAt (mVar 12) 100 s ρ2 := ⟨by decide, rfl, small_ok h_s⟩
      have f_sense : isAt (mVar 2) 201 sense ρ2 := ⟨by decide, rfl, b_sense⟩
      have f_second : isAt (mVar 3) 504 second ρ2 := ⟨by decide, rfl, b_second⟩
      have e_third := IE.run (ρ := ρ2) (.add (.add (.add (.mul (.mul (.mul (.mul (.c 3) (.x (mVar 5) 100 a)) (.x (mVar 9) 100 p)) (.x (mVar 11) 100 r)) (.x (mVar 11) 100 r)) (.mul (.x (mVar 6) 100 b) (.add (.mul (.mul (.x (mVar 11) 100 r) (.x (mVar 11) 100 r)) (.x (mVar 10) 100 q)) (.mul (.mul (.mul (.c 2) (.x (mVar 9) 100 p)) (.x (mVar 11) 100 r)) (.x (mVar 12) 100 s))))) (.mul (.x (mVar 7) 100 c) (.add (.mul (.mul (.mul (.c 2) (.x (mVar 10) 100 q)) (.x (mVar 11) 100 r)) (.x (mVar 12) 100 s)) (.mul (.mul (.x (mVar 9) 100 p) (.x (mVar 12) 100 s)) (.x (mVar 12) 100 s))))) (.mul (.mul (.mul (.mul (.c 3) (.x (mVar 8) 100 d)) (.x (mVar 10) 100 q)) (.x (mVar 12) 100 s)) (.x (mVar 12) 100 s))) ⟨⟨⟨⟨⟨⟨⟨(show (3 : Int).natAbs < 2 ^ 100 by decide), f_a⟩, f_p⟩, f_r⟩, f_r⟩, ⟨f_b, ⟨⟨⟨f_r, f_r⟩, f_q⟩, ⟨⟨⟨(show (2 : Int).natAbs < 2 ^ 100 by decide), f_p⟩, f_r⟩, f_s⟩⟩⟩⟩, ⟨f_c, ⟨⟨⟨⟨(show (2 : Int).natAbs < 2 ^ 100 by decide), f_q⟩, f_r⟩, f_s⟩, ⟨⟨f_p, f_s⟩, f_s⟩⟩⟩⟩, ⟨⟨⟨⟨(show (3 : Int).natAbs < 2 ^ 100 by decide), f_d⟩, f_q⟩, f_s⟩, f_s⟩⟩ (show (504 : Nat) ≤ 10000 by decide)
      have b_third : ((((((((3 * a) * p) * r) * r) + (b * (((r * r) * q) + (((2 * p) * r) * s)))) + (c * ((((2 * q) * r) * s) + ((p * s) * s)))) + ((((3 * d) * q) * s) * s)) : Int).natAbs < 2 ^ 504 := e_third.2
      have s_2 : sSet 4 (IE.m (.add (.add (.add (.mul (.mul (.mul (.mul (.c 3) (.x (mVar 5) 100 a)) (.x (mVar 9) 100 p)) (.x (mVar 11) 100 r)) (.x (mVar 11) 100 r)) (.mul (.x (mVar 6) 100 b) (.add (.mul (.mul (.x (mVar 11) 100 r) (.x (mVar 11) 100 r)) (.x (mVar 10) 100 q)) (.mul (.mul (.mul (.c 2) (.x (mVar 9) 100 p)) (.x (mVar 11) 100 r)) (.x (mVar 12) 100 s))))) (.mul (.x (mVar 7) 100 c) (.add (.mul (.mul (.mul (.c 2) (.x (mVar 10) 100 q)) (.x (mVar 11) 100 r)) (.x (mVar 12) 100 s)) (.mul (.mul (.x (mVar 9) 100 p) (.x (mVar 12) 100 s)) (.x (mVar 12) 100 s))))) (.mul (.mul (.mul (.mul (.c 3) (.x (mVar 8) 100 d)) (.x (mVar 10) 100 q)) (.x (mVar 12) 100 s)) (.x (mVar 12) 100 s)))) ρ2 = some (.nx (ρ2.set 4 (some (.d (.int (((((((3 * a) * p) * r) * r) + (b * (((r * r) * q) + (((2 * p) * r) * s)))) + (c * ((((2 * q) * r) * s) + ((p * s) * s)))) + ((((3 * d) * q) * s) * s))))))) := set_ie e_third.1
      generalize (((((((3 * a) * p) * r) * r) + (b * (((r * r) * q) + (((2 * p) * r) * s)))) + (c * ((((2 * q) * r) * s) + ((p * s) * s)))) + ((((3 * d) * q) * s) * s)) = third at b_third s_2 ⊢
      let ρ3 : DL.Env := [some (.d (.tup [.int a, .int b, .int c, .int d])), some (.d (.tup [.tup [.int p, .int q], .tup [.int r, .int s]])), some (.d (.int sense)), some (.d (.int second)), some (.d (.int third)), some (.d (.int a)), some (.d (.int b)), some (.d (.int c)), some (.d (.int d)), some (.d (.int p)), some (.d (.int q)), some (.d (.int r)), some (.d (.int s))]
      have f_a : isAt (mVar 5) 100 a ρ3 := ⟨by decide, rfl, small_ok h_a⟩
      have f_b : isAt (mVar 6) 100 b ρ3 := ⟨by decide, rfl, small_ok h_b⟩
      have f_c : isAt (mVar 7) 100 c ρ3 := ⟨by decide, rfl, small_ok h_c⟩
      have f_d : isAt (mVar 8) 100 d ρ3 := ⟨by decide, rfl, small_ok h_d⟩
      have f_p : isAt (mVar 9) 100 p ρ3 := ⟨by decide, rfl, small_ok h_p⟩
      have f_q : isAt (mVar 10) 100 q ρ3 := ⟨by decide, rfl, small_ok h_q⟩
      have f_r : isAt (mVar 11) 100 r ρ3 := ⟨by decide, rfl, small_ok h_r⟩
      have f_s : isAt (mVar 12) 100 s ρ3 := ⟨by decide, rfl, small_ok h_s⟩
      have f_sense : isAt (mVar 2) 201 sense ρ3 := ⟨by decide, rfl, b_sense⟩
      have f_second : isAt (mVar 3) 504 second ρ3 := ⟨by decide, rfl, b_second⟩
      have f_third : isAt (mVar 4) 504 third ρ3 := ⟨by decide, rfl, b_third⟩
      have g_0 : isAt (mCall m_form_at (mCons (mVar 0) (mCons (mVar 9) (mCons (mVar 10) mNil)))) 403 (v_form_at a b c d p q) ρ3 := ⟨by decide, (show m_form_at [.d (.tup [.int a, .int b, .int c, .int d]), .d (.int p), .d (.int q)] = _ from at_val h_a h_b h_c h_d h_p h_q), at_bd h_a h_b h_c h_d h_p h_q⟩
      have g_1 : isAt (mCall m_form_at (mCons (mVar 0) (mCons (mVar 11) (mCons (mVar 12) mNil)))) 403 (v_form_at a b c d r s) ρ3 := ⟨by decide, (show m_form_at [.d (.tup [.int a, .int b, .int c, .int d]), .d (.int r), .d (.int s)] = _ from at_val h_a h_b h_c h_d h_r h_s), at_bd h_a h_b h_c h_d h_r h_s⟩
      have r_0 := (IE.run (ρ := ρ3) (.mul (.x (mVar 2) 201 sense) (.x (mCall m_form_at (mCons (mVar 0) (mCons (mVar 9) (mCons (mVar 10) mNil)))) 403 (v_form_at a b c d p q))) ⟨f_sense, g_0⟩ (show (604 : Nat) ≤ 10000 by decide)).1
      have r_1 := (IE.run (ρ := ρ3) (.mul (.x (mVar 2) 201 sense) (.x (mVar 3) 504 second)) ⟨f_sense, f_second⟩ (show (705 : Nat) ≤ 10000 by decide)).1
      have r_2 := (IE.run (ρ := ρ3) (.mul (.x (mVar 2) 201 sense) (.x (mVar 4) 504 third)) ⟨f_sense, f_third⟩ (show (705 : Nat) ≤ 10000 by decide)).1
      have r_3 := (IE.run (ρ := ρ3) (.mul (.x (mVar 2) 201 sense) (.x (mCall m_form_at (mCons (mVar 0) (mCons (mVar 11) (mCons (mVar 12) mNil)))) 403 (v_form_at a b c d r s))) ⟨f_sense, g_1⟩ (show (604 : Nat) ≤ 10000 by decide)).1
      refine fn_ret (s := s_form_led) (ρ := ρ3) ?_ (tup4 r_0 r_1 r_2 r_3)
      show sSeq _ _ ρ0 = _
      refine (seq_nx s_0).trans ?_
      refine (seq_nx s_1).trans ?_
      refine (seq_nx s_2).trans ?_
      rfl
    · cases h
  · cases h
theorem weak_discriminant_of (ws : List W) (r : W) (h : x_discriminant_of ws = some r) : o_discriminant_of ws = some r := by
  unfold x_discriminant_of at h
  split at h
  · rename_i a b c d
    split at h
    · rename_i hs
      simp only [frc_eq] at h
      cases h
      simp only [Bool.and_eq_true] at hs
      obtain ⟨⟨⟨h_a, h_b⟩, h_c⟩, h_d⟩ := hs
      let ρ0 : DL.Env := [some (.d (.tup [.int a, .int b, .int c, .int d])), none, some (.d (.int a)), some (.d (.int b)), some (.d (.int c)), some (.d (.int d))]
      have f_a : isAt (mVar 2) 100 a ρ0 := ⟨by decide, rfl, small_ok h_a⟩
      have f_b : isAt (mVar 3) 100 b ρ0 := ⟨by decide, rfl, small_ok h_b⟩
      have f_c : isAt (mVar 4) 100 c ρ0 := ⟨by decide, rfl, small_ok h_c⟩
      have f_d : isAt (mVar 5) 100 d ρ0 := ⟨by decide, rfl, small_ok h_d⟩
      have e_plus := IE.run (ρ := ρ0) (.add (.mul (.mul (.mul (.x (mVar 3) 100 b) (.x (mVar 3) 100 b)) (.x (mVar 4) 100 c)) (.x (mVar 4) 100 c)) (.mul (.mul (.mul (.mul (.c 18) (.x (mVar 2) 100 a)) (.x (mVar 3) 100 b)) (.x (mVar 4) 100 c)) (.x (mVar 5) 100 d))) ⟨⟨⟨⟨f_b, f_b⟩, f_c⟩, f_c⟩, ⟨⟨⟨⟨(show (18 : Int).natAbs < 2 ^ 100 by decide), f_a⟩, f_b⟩, f_c⟩, f_d⟩⟩ (show (501 : Nat) ≤ 10000 by decide)
      have b_plus : (((((b * b) * c) * c) + ((((18 * a) * b) * c) * d)) : Int).natAbs < 2 ^ 501 := e_plus.2
      have s_0 : sSet 1 (IE.m (.add (.mul (.mul (.mul (.x (mVar 3) 100 b) (.x (mVar 3) 100 b)) (.x (mVar 4) 100 c)) (.x (mVar 4) 100 c)) (.mul (.mul (.mul (.mul (.c 18) (.x (mVar 2) 100 a)) (.x (mVar 3) 100 b)) (.x (mVar 4) 100 c)) (.x (mVar 5) 100 d)))) ρ0 = some (.nx (ρ0.set 1 (some (.d (.int ((((b * b) * c) * c) + ((((18 * a) * b) * c) * d))))))) := set_ie e_plus.1
      generalize ((((b * b) * c) * c) + ((((18 * a) * b) * c) * d)) = plus at b_plus s_0 ⊢
      let ρ1 : DL.Env := [some (.d (.tup [.int a, .int b, .int c, .int d])), some (.d (.int plus)), some (.d (.int a)), some (.d (.int b)), some (.d (.int c)), some (.d (.int d))]
      have f_a : isAt (mVar 2) 100 a ρ1 := ⟨by decide, rfl, small_ok h_a⟩
      have f_b : isAt (mVar 3) 100 b ρ1 := ⟨by decide, rfl, small_ok h_b⟩
      have f_c : isAt (mVar 4) 100 c ρ1 := ⟨by decide, rfl, small_ok h_c⟩
      have f_d : isAt (mVar 5) 100 d ρ1 := ⟨by decide, rfl, small_ok h_d⟩
      have f_plus : isAt (mVar 1) 501 plus ρ1 := ⟨by decide, rfl, b_plus⟩
      have r_0 := (IE.run (ρ := ρ1) (.sub (.sub (.sub (.x (mVar 1) 501 plus) (.mul (.mul (.mul (.mul (.c 4) (.x (mVar 2) 100 a)) (.x (mVar 4) 100 c)) (.x (mVar 4) 100 c)) (.x (mVar 4) 100 c))) (.mul (.mul (.mul (.mul (.c 4) (.x (mVar 3) 100 b)) (.x (mVar 3) 100 b)) (.x (mVar 3) 100 b)) (.x (mVar 5) 100 d))) (.mul (.mul (.mul (.mul (.c 27) (.x (mVar 2) 100 a)) (.x (mVar 2) 100 a)) (.x (mVar 5) 100 d)) (.x (mVar 5) 100 d))) ⟨⟨⟨f_plus, ⟨⟨⟨⟨(show (4 : Int).natAbs < 2 ^ 100 by decide), f_a⟩, f_c⟩, f_c⟩, f_c⟩⟩, ⟨⟨⟨⟨(show (4 : Int).natAbs < 2 ^ 100 by decide), f_b⟩, f_b⟩, f_b⟩, f_d⟩⟩, ⟨⟨⟨⟨(show (27 : Int).natAbs < 2 ^ 100 by decide), f_a⟩, f_a⟩, f_d⟩, f_d⟩⟩ (show (504 : Nat) ≤ 10000 by decide)).1
      refine fn_ret (s := s_discriminant_of) (ρ := ρ1) ?_ r_0
      show sSeq _ _ ρ0 = _
      refine (seq_nx s_0).trans ?_
      rfl
    · cases h
  · cases h
theorem weak_hessian_of (ws : List W) (r : W) (h : x_hessian_of ws = some r) : o_hessian_of ws = some r := by
  unfold x_hessian_of at h
  split at h
  · rename_i a b c d
    split at h
    · rename_i hs
      simp only [frc_eq] at h
      cases h
      simp only [Bool.and_eq_true] at hs
      obtain ⟨⟨⟨h_a, h_b⟩, h_c⟩, h_d⟩ := hs
      let ρ0 : DL.Env := [some (.d (.tup [.int a, .int b, .int c, .int d])), some (.d (.int a)), some (.d (.int b)), some (.d (.int c)), some (.d (.int d))]
      have f_a : isAt (mVar 1) 100 a ρ0 := ⟨by decide, rfl, small_ok h_a⟩
      have f_b : isAt (mVar 2) 100 b ρ0 := ⟨by decide, rfl, small_ok h_b⟩
      have f_c : isAt (mVar 3) 100 c ρ0 := ⟨by decide, rfl, small_ok h_c⟩
      have f_d : isAt (mVar 4) 100 d ρ0 := ⟨by decide, rfl, small_ok h_d⟩
      have r_0 := (IE.run (ρ := ρ0) (.sub (.mul (.x (mVar 2) 100 b) (.x (mVar 2) 100 b)) (.mul (.mul (.c 3) (.x (mVar 1) 100 a)) (.x (mVar 3) 100 c))) ⟨⟨f_b, f_b⟩, ⟨⟨(show (3 : Int).natAbs < 2 ^ 100 by decide), f_a⟩, f_c⟩⟩ (show (301 : Nat) ≤ 10000 by decide)).1
      have r_1 := (IE.run (ρ := ρ0) (.sub (.mul (.x (mVar 2) 100 b) (.x (mVar 3) 100 c)) (.mul (.mul (.c 9) (.x (mVar 1) 100 a)) (.x (mVar 4) 100 d))) ⟨⟨f_b, f_c⟩, ⟨⟨(show (9 : Int).natAbs < 2 ^ 100 by decide), f_a⟩, f_d⟩⟩ (show (301 : Nat) ≤ 10000 by decide)).1
      have r_2 := (IE.run (ρ := ρ0) (.sub (.mul (.x (mVar 3) 100 c) (.x (mVar 3) 100 c)) (.mul (.mul (.c 3) (.x (mVar 2) 100 b)) (.x (mVar 4) 100 d))) ⟨⟨f_c, f_c⟩, ⟨⟨(show (3 : Int).natAbs < 2 ^ 100 by decide), f_b⟩, f_d⟩⟩ (show (301 : Nat) ≤ 10000 by decide)).1
      exact fn_ret (s := s_hessian_of) (ρ := ρ0) rfl (tup3 r_0 r_1 r_2)
    · cases h
  · cases h
theorem weak_monic_at (ws : List W) (r : W) (h : x_monic_at ws = some r) : o_monic_at ws = some r := by
  unfold x_monic_at at h
  split at h
  · rename_i u v w x
    split at h
    · rename_i hs
      simp only [frc_eq] at h
      cases h
      simp only [Bool.and_eq_true] at hs
      obtain ⟨⟨⟨h_x, h_u⟩, h_v⟩, h_w⟩ := hs
      let ρ0 : DL.Env := [some (.d (.tup [.int u, .int v, .int w])), some (.d (.int x)), some (.d (.int u)), some (.d (.int v)), some (.d (.int w))]
      have f_x : isAt (mVar 1) 100 x ρ0 := ⟨by decide, rfl, small_ok h_x⟩
      have f_u : isAt (mVar 2) 100 u ρ0 := ⟨by decide, rfl, small_ok h_u⟩
      have f_v : isAt (mVar 3) 100 v ρ0 := ⟨by decide, rfl, small_ok h_v⟩
      have f_w : isAt (mVar 4) 100 w ρ0 := ⟨by decide, rfl, small_ok h_w⟩
      have r_0 := (IE.run (ρ := ρ0) (.add (.mul (.add (.mul (.add (.x (mVar 1) 100 x) (.x (mVar 2) 100 u)) (.x (mVar 1) 100 x)) (.x (mVar 3) 100 v)) (.x (mVar 1) 100 x)) (.x (mVar 4) 100 w)) ⟨⟨⟨⟨⟨f_x, f_u⟩, f_x⟩, f_v⟩, f_x⟩, f_w⟩ (show (303 : Nat) ≤ 10000 by decide)).1
      exact fn_ret (s := s_monic_at) (ρ := ρ0) rfl r_0
    · cases h
  · cases h
theorem weak_joined_in (ws : List W) (r : W) (h : x_joined_in ws = some r) : o_joined_in ws = some r := by
  unfold x_joined_in at h
  split at h
  · rename_i p q r s i j k l
    split at h
    · rename_i hs
      simp only [frc_eq] at h
      cases h
      simp only [Bool.and_eq_true] at hs
      obtain ⟨⟨⟨⟨⟨⟨⟨h_p, h_q⟩, h_r⟩, h_s⟩, h_i⟩, h_j⟩, h_k⟩, h_l⟩ := hs
      let ρ0 : DL.Env := [some (.d (.tup [.tup [.int p, .int q], .tup [.int r, .int s]])), some (.d (.tup [.tup [.int i, .int j], .tup [.int k, .int l]])), some (.d (.int p)), some (.d (.int q)), some (.d (.int r)), some (.d (.int s)), some (.d (.int i)), some (.d (.int j)), some (.d (.int k)), some (.d (.int l))]
      have f_p : isAt (mVar 2) 100 p ρ0 := ⟨by decide, rfl, small_ok h_p⟩
      have f_q : isAt (mVar 3) 100 q ρ0 := ⟨by decide, rfl, small_ok h_q⟩
      have f_r : isAt (mVar 4) 100 r ρ0 := ⟨by decide, rfl, small_ok h_r⟩
      have f_s : isAt (mVar 5) 100 s ρ0 := ⟨by decide, rfl, small_ok h_s⟩
      have f_i : isAt (mVar 6) 100 i ρ0 := ⟨by decide, rfl, small_ok h_i⟩
      have f_j : isAt (mVar 7) 100 j ρ0 := ⟨by decide, rfl, small_ok h_j⟩
      have f_k : isAt (mVar 8) 100 k ρ0 := ⟨by decide, rfl, small_ok h_k⟩
      have f_l : isAt (mVar 9) 100 l ρ0 := ⟨by decide, rfl, small_ok h_l⟩
      have r_0 := (IE.run (ρ := ρ0) (.add (.mul (.x (mVar 6) 100 i) (.x (mVar 2) 100 p)) (.mul (.x (mVar 7) 100 j) (.x (mVar 4) 100 r))) ⟨⟨f_i, f_p⟩, ⟨f_j, f_r⟩⟩ (show (201 : Nat) ≤ 10000 by decide)).1
      have r_1 := (IE.run (ρ := ρ0) (.add (.mul (.x (mVar 6) 100 i) (.x (mVar 3) 100 q)) (.mul (.x (mVar 7) 100 j) (.x (mVar 5) 100 s))) ⟨⟨f_i, f_q⟩, ⟨f_j, f_s⟩⟩ (show (201 : Nat) ≤ 10000 by decide)).1
      have r_2 := (IE.run (ρ := ρ0) (.add (.mul (.x (mVar 8) 100 k) (.x (mVar 2) 100 p)) (.mul (.x (mVar 9) 100 l) (.x (mVar 4) 100 r))) ⟨⟨f_k, f_p⟩, ⟨f_l, f_r⟩⟩ (show (201 : Nat) ≤ 10000 by decide)).1
      have r_3 := (IE.run (ρ := ρ0) (.add (.mul (.x (mVar 8) 100 k) (.x (mVar 3) 100 q)) (.mul (.x (mVar 9) 100 l) (.x (mVar 5) 100 s))) ⟨⟨f_k, f_q⟩, ⟨f_l, f_s⟩⟩ (show (201 : Nat) ≤ 10000 by decide)).1
      exact fn_ret (s := s_joined_in) (ρ := ρ0) rfl (tup2 (tup2 r_0 r_1) (tup2 r_2 r_3))
    · cases h
  · cases h
theorem eq_end (x y : Int) : fEq (.d (.tup [.int x, .int y])) (.d c_END_steps) = some (.d (.bl (decide (x = 1) && decide (y = 0)))) := by
  have e : fEqB (.d (.tup [.int x, .int y])) (.d c_END_steps) = some (decide (x = 1) && decide (y = 0)) := by
    show fEqS (.d (.tup [.int x, .int y])) (.d c_END_steps) = _
    show some (PyData.eqv (.tuple [.int x, .int y]) (.tuple [.int 1, .int 0])) = _
    simp [PyData.eqv, PyData.eqvAll]
    try rfl
  unfold fEq
  rw [e]
theorem op_of {f : W → W → Option W} {a b : M W} {ρ : DL.Env} {x y : W} (ha : a ρ = some x) (hb : b ρ = some y) : mOp f a b ρ = f x y := by
  unfold mOp
  rw [ha, hb]
theorem mod_of {i j : Int} (h : j ≠ 0) : fMod (.d (.int i)) (.d (.int j)) = some (.d (.int (i.fmod j))) := by
  unfold fMod
  simp only [decide_eq_true h]
theorem test_of {a : M W} {ρ : DL.Env} {b : Bool} (h : a ρ = some (.d (.bl b))) : mTest a ρ = some b := by
  unfold mTest
  rw [h]
theorem slope_val {a b c d x : Int} (ha : small a = true) (hb : small b = true) (hc : small c = true) (hd : small d = true) (hx : small x = true) : m_slope_at [.d (.tup [.int a, .int b, .int c, .int d]), .d (.int x)] = some (.d (.int (3 * a * x * x + 2 * b * x + c))) := by
  let ρ : DL.Env := [some (.d (.tup [.int a, .int b, .int c, .int d])), some (.d (.int x))]
  have f0 : isAt (mOp fIx (mVar 0) (mC (.d (.int 0)))) 100 a ρ := ⟨by decide, rfl, small_ok ha⟩
  have f1 : isAt (mOp fIx (mVar 0) (mC (.d (.int 1)))) 100 b ρ := ⟨by decide, rfl, small_ok hb⟩
  have f2 : isAt (mOp fIx (mVar 0) (mC (.d (.int 2)))) 100 c ρ := ⟨by decide, rfl, small_ok hc⟩
  have fx : isAt (mVar 1) 100 x ρ := ⟨by decide, rfl, small_ok hx⟩
  have c3 : (3 : Int).natAbs < 2 ^ 100 := by decide
  have c2 : (2 : Int).natAbs < 2 ^ 100 := by decide
  exact fn_ret (s := s_slope_at) (ρ := ρ) rfl (IE.run (.add (.add (.mul (.mul (.mul (.c 3) (.x _ 100 a)) (.x (mVar 1) 100 x)) (.x (mVar 1) 100 x)) (.mul (.mul (.c 2) (.x _ 100 b)) (.x (mVar 1) 100 x))) (.x _ 100 c)) ⟨⟨⟨⟨⟨c3, f0⟩, fx⟩, fx⟩, ⟨⟨c2, f1⟩, fx⟩⟩, f2⟩ (show (402 : Nat) ≤ 10000 by decide)).1
theorem weak_is_heavy (ws : List W) (r : W) (h : x_is_heavy ws = some r) : o_is_heavy ws = some r := by
  unfold x_is_heavy at h
  split at h
  · rename_i a b c d p x y
    split at h
    · rename_i hs
      simp only [Bool.and_eq_true] at hs
      obtain ⟨⟨⟨⟨⟨⟨⟨ha, hb⟩, hc⟩, hd⟩, hp⟩, hx⟩, hy⟩, p0⟩ := hs
      have p0 : p ≠ 0 := of_decide_eq_true p0
      have p2 : p * p ≠ 0 := fun z => (Int.mul_eq_zero.mp z).elim p0 p0
      let ρ : DL.Env := [some (.d (.tup [.int a, .int b, .int c, .int d])), some (.d (.int p)), some (.d (.tup [.int x, .int y]))]
      have t1 : mCall m_form_at (mCons (mVar 0) (mCons (mOp fIx (mVar 2) (mC (.d (.int 0)))) (mCons (mOp fIx (mVar 2) (mC (.d (.int 1)))) mNil))) ρ = some (.d (.int (v_form_at a b c d x y))) := at_val ha hb hc hd hx hy
      have fp : isAt (mVar 1) 100 p ρ := ⟨by decide, rfl, small_ok hp⟩
      have t2 : mOp fMul (mVar 1) (mVar 1) ρ = some (.d (.int (p * p))) := (IE.run (.mul (.x (mVar 1) 100 p) (.x (mVar 1) 100 p)) ⟨fp, fp⟩ (show (200 : Nat) ≤ 10000 by decide)).1
      have t3 := (op_of (f := fMod) t1 t2).trans (mod_of p2)
      have t4 : mOp fNe (mOp fMod (mCall m_form_at (mCons (mVar 0) (mCons (mOp fIx (mVar 2) (mC (.d (.int 0)))) (mCons (mOp fIx (mVar 2) (mC (.d (.int 1)))) mNil)))) (mOp fMul (mVar 1) (mVar 1))) (mC (.d (.int 0))) ρ = some (.d (.bl (!((v_form_at a b c d x y).fmod (p * p) == 0)))) := (op_of (f := fNe) t3 (show mC (.d (.int 0)) ρ = some (.d (.int 0)) from rfl)).trans rfl
      have t5 := test_of t4
      have t6 : mOp fEq (mVar 2) (mC (.d c_END_steps)) ρ = some (.d (.bl (decide (x = 1) && decide (y = 0)))) := (op_of (f := fEq) (show mVar 2 ρ = some (.d (.tup [.int x, .int y])) from rfl) rfl).trans (eq_end x y)
      have t7 := test_of t6
      have t8 : mCall m_slope_at (mCons (mVar 0) (mCons (mOp fIx (mVar 2) (mC (.d (.int 0)))) mNil)) ρ = some (.d (.int (3 * a * x * x + 2 * b * x + c))) := slope_val ha hb hc hd hx
      have fin : ∀ k : Int, mIf (mTest (mOp fEq (mVar 2) (mC (.d c_END_steps)))) (mOp fIx (mVar 0) (mC (.d (.int 1)))) (mCall m_slope_at (mCons (mVar 0) (mCons (mOp fIx (mVar 2) (mC (.d (.int 0)))) mNil))) ρ = some (.d (.int k)) → mOp fEq (mOp fMod (mIf (mTest (mOp fEq (mVar 2) (mC (.d c_END_steps)))) (mOp fIx (mVar 0) (mC (.d (.int 1)))) (mCall m_slope_at (mCons (mVar 0) (mCons (mOp fIx (mVar 2) (mC (.d (.int 0)))) mNil)))) (mVar 1)) (mC (.d (.int 0))) ρ = some (.d (.bl (k.fmod p == 0))) := fun k e => (op_of (f := fEq) ((op_of (f := fMod) e (show mVar 1 ρ = some (.d (.int p)) from rfl)).trans (mod_of p0)) (show mC (.d (.int 0)) ρ = some (.d (.int 0)) from rfl)).trans rfl
      split at h
      · rename_i hz
        have hz := of_decide_eq_true hz
        rw [hz] at t5
        have first : sIf (mTest (mOp fNe (mOp fMod (mCall m_form_at (mCons (mVar 0) (mCons (mOp fIx (mVar 2) (mC (.d (.int 0)))) (mCons (mOp fIx (mVar 2) (mC (.d (.int 1)))) mNil)))) (mOp fMul (mVar 1) (mVar 1))) (mC (.d (.int 0))))) (sRet (mC (.d (.bl false)))) sNx ρ = some (.nx ρ) := by
          unfold sIf
          rw [t5]
          rfl
        have e2 : ∀ k : Int, mIf (mTest (mOp fEq (mVar 2) (mC (.d c_END_steps)))) (mOp fIx (mVar 0) (mC (.d (.int 1)))) (mCall m_slope_at (mCons (mVar 0) (mCons (mOp fIx (mVar 2) (mC (.d (.int 0)))) mNil))) ρ = some (.d (.int k)) → o_is_heavy [.d (.tup [.int a, .int b, .int c, .int d]), .d (.int p), .d (.tup [.int x, .int y])] = some (.d (.bl (k.fmod p == 0))) := fun k e => by
          refine fn_ret (s := s_is_heavy) (ρ := ρ) ?_ (fin k e)
          show sSeq _ _ ρ = _
          exact seq_nx first
        split at h
        · rename_i hq
          cases h
          refine e2 b ?_
          unfold mIf
          rw [t7, hq]
          rfl
        · rename_i hq
          cases h
          refine e2 _ ?_
          unfold mIf
          rw [t7, hq]
          exact t8
      · rename_i hz
        cases h
        have hz : (!((v_form_at a b c d x y).fmod (p * p) == 0)) = true := by
          have z := of_decide_eq_false hz
          simp [z]
        rw [hz] at t5
        show mFn 3 s_is_heavy _ = _
        unfold mFn
        have e : s_is_heavy (env0 3 [.d (.tup [.int a, .int b, .int c, .int d]), .d (.int p), .d (.tup [.int x, .int y])]) = some (.rt (.d (.bl false))) := by
          show sSeq _ _ ρ = _
          unfold sSeq sIf
          rw [t5]
          rfl
        rw [e]
    · cases h
  · cases h
theorem weak_small_changes (ws : List W) (r : W) (h : x_small_changes ws = some r) : o_small_changes ws = some r := by
  unfold x_small_changes at h
  split at h
  · rw [← h]
    kernel_rfl
  · cases h
theorem plK_len : ∀ (n : Nat) (x : Int), (plK x n).length = n
  | 0, _ => rfl
  | n + 1, x => by rw [plK, List.length_cons, plK_len n]
theorem lc_pl {p : Int} : ∀ (n : Nat) (x : Int), lcL (gNm 1) mYes (mTup (mCons (mVar 1) (mCons (mC (.d (.int 1))) mNil))) [some (.d (.int p)), none] ((DL.intsFrom x n).map DL.intD) = some ((plK x n).map tupK)
  | 0, _ => rfl
  | n + 1, x => by
    have e := lc_pl (p := p) n (x + 1)
    rw [DL.intsFrom, List.map_cons, plK, List.map_cons]
    unfold lcL
    rw [e]
    rfl
theorem keys_tupK : ∀ ks : List (List Int), keysD (ks.map tupK) = some ks
  | [] => rfl
  | k :: ks => by
    have i : ∀ k : List Int, intsD (k.map D.int) = some k := fun k => by
      induction k with
      | nil => rfl
      | cons x xs ih =>
        show (match intsD (xs.map D.int) with
          | some is => some (x :: is)
          | none => none) = _
        rw [ih]
    show (match intsD (k.map D.int) with
      | some k => (match keysD (ks.map tupK) with
        | some ks => some (k :: ks)
        | none => none)
      | none => none) = _
    rw [i, keys_tupK ks]
theorem datas_d : ∀ ds : List D, datas (ds.map W.d) = some ds
  | [] => rfl
  | d :: ds => by
    show (match datas (ds.map W.d) with
      | some ds => some (d :: ds)
      | none => none) = _
    rw [datas_d ds]
theorem ne_pl : ∀ (n : Nat) (x : Int), neK (plK x n) = true
  | 0, _ => rfl
  | n + 1, x => ne_pl n (x + 1)
theorem isort_pl : ∀ (n : Nat) (x : Int), isortK (plK x n) = plK x n
  | 0, _ => rfl
  | n + 1, x => by
    show insK [x, 1] (isortK (plK (x + 1) n)) = _
    rw [isort_pl n (x + 1)]
    cases n with
    | zero => rfl
    | succ n =>
      have l : HT.lexLt [x + 1, 1] [x, 1] = false := by
        rw [HT.lexLt_cons, if_neg (by omega)]
        exact decide_eq_false (by omega)
      show (match HT.lexLt [x + 1, 1] [x, 1] with
        | true => _
        | false => _) = _
      rw [l]
      rfl
theorem isort_end (n : Nat) : isortK ([1, 0] :: plK 0 (n + 1)) = [0, 1] :: [1, 0] :: plK 1 n := by
  show insK [1, 0] (isortK (plK 0 (n + 1))) = _
  rw [isort_pl]
  show [0, 1] :: insK [1, 0] (plK 1 n) = _
  cases n <;> rfl
theorem cons_of {m : M W} {r : M (List W)} {ρ : DL.Env} {x : W} {xs : List W} (h : m ρ = some x) (k : r ρ = some xs) : mCons m r ρ = some (x :: xs) := by
  unfold mCons
  rw [h, k]
theorem call_of {f : List W → Option W} {r : M (List W)} {ρ : DL.Env} {xs : List W} (k : r ρ = some xs) : mCall f r ρ = f xs := by
  unfold mCall
  rw [k]
theorem star_of {m : M W} {r : M (List W)} {ρ : DL.Env} {ds : List D} {xs : List W} (h : m ρ = some (.own ds)) (k : r ρ = some xs) : mStar m r ρ = some (ds.map W.d ++ xs) := by
  unfold mStar
  rw [h]
  dsimp only
  rw [k]
theorem lst_of {r : M (List W)} {ρ : DL.Env} {ds : List D} (k : r ρ = some (ds.map W.d)) (l : ds.length ≤ 1000) : mLst r ρ = some (.own ds) := by
  unfold mLst
  rw [k]
  dsimp only
  rw [datas_d]
  dsimp only
  rw [Nat.ble_eq.mpr l]
theorem lc_of {it : M (List D)} {vs : List Nat} {g : D → DL.Env → Option DL.Env} {c : M Bool} {e : M W} {ρ : DL.Env} {ds es : List D} (h : it ρ = some ds) (k : lcL g c e (wip ρ vs) ds = some es) (l : es.length ≤ 1000) : mLc it vs g c e ρ = some (.own es) := by
  unfold mLc
  rw [h]
  dsimp only
  rw [k]
  dsimp only
  rw [Nat.ble_eq.mpr l]
theorem ret_own {m : M W} {ρ : DL.Env} {ds : List D} (h : m ρ = some (.own ds)) : sRet m ρ = some (.rt (.own ds)) := by
  unfold sRet
  rw [h]
  rfl
theorem range_of {m : M W} {ρ : DL.Env} {n : Nat} (h : m ρ = some (.d (.int (Int.ofNat n)))) (l : n ≤ 1000) : itR1 m ρ = some ((DL.intsFrom 0 n).map DL.intD) := by
  have d : (decide (-1000 ≤ Int.ofNat n) && decide (Int.ofNat n ≤ 100000)) = true := by
    have h1 : (-1000 : Int) ≤ ((n : Nat) : Int) := by omega
    have h2 : ((n : Nat) : Int) ≤ 100000 := by omega
    rw [decide_eq_true (show (-1000 : Int) ≤ Int.ofNat n from h1), decide_eq_true (show Int.ofNat n ≤ (100000 : Int) from h2)]
    rfl
  unfold itR1
  rw [h]
  dsimp only
  rw [d]
  rfl
theorem sort_of {ks : List (List Int)} (ne : neK ks = true) (l : ks.length ≤ 1000) : sortD (ks.map tupK) = some (.own ((isortK ks).map tupK)) := by
  unfold sortD
  rw [keys_tupK]
  dsimp only
  rw [ne, Nat.ble_eq.mpr l]
  rfl
theorem places_val {n : Nat} (h : n + 1 ≤ 990) : m_places_at [.d (.int (.ofNat (n + 1)))] = some (.own (([0, 1] :: [1, 0] :: plK 1 n).map tupK)) := by
  let ρ : DL.Env := [some (.d (.int (.ofNat (n + 1)))), none]
  have e1 := lc_of (ρ := ρ) (vs := [1]) (g := gNm 1) (c := mYes) (range_of (m := mVar 0) (n := n + 1) rfl (by omega)) (lc_pl (n + 1) 0) (by rw [List.length_map, plK_len]; omega)
  have e2 := cons_of (m := mC (.d c_END_steps)) (ρ := ρ) rfl (star_of (r := mNil) e1 rfl)
  rw [List.append_nil] at e2
  have e3 := lst_of (ds := ([1, 0] :: plK 0 (n + 1)).map tupK) e2 (by rw [List.length_map, List.length_cons, plK_len]; omega)
  have e4 := (call_of (f := bSorted) (cons_of (r := mNil) e3 rfl)).trans (sort_of (ks := [1, 0] :: plK 0 (n + 1)) (ne_pl (n + 1) 0) (by rw [List.length_cons, plK_len]; omega))
  rw [isort_end] at e4
  show mFn 2 s_places_at _ = _
  unfold mFn
  have e8 : s_places_at (env0 2 [.d (.int (.ofNat (n + 1)))]) = some (.rt (.own (([0, 1] :: [1, 0] :: plK 1 n).map tupK))) := ret_own (ρ := ρ) e4
  rw [e8]

/-! is_divided -/
theorem divided_val {a b c d p : Int} (p0 : p ≠ 0) : m_is_divided [.d (.tup [.int a, .int b, .int c, .int d]), .d (.int p)] = some (.d (.bl (rowIn a b c d p))) := by
  let ρ : DL.Env := [some (.d (.tup [.int a, .int b, .int c, .int d])), some (.d (.int p)), none]
  have one : ∀ x : Int, (mOp fEq (mOp fMod (mVar 2) (mVar 1)) (mC (.d (.int 0)))) (ρ.set 2 (some (.d (.int x)))) = some (.d (.bl (x.fmod p == 0))) := fun x => (op_of (f := fEq) ((op_of (f := fMod) (show mVar 2 (ρ.set 2 (some (.d (.int x)))) = some (.d (.int x)) from rfl) (show mVar 1 (ρ.set 2 (some (.d (.int x)))) = some (.d (.int p)) from rfl)).trans (mod_of p0)) (show mC (.d (.int 0)) (ρ.set 2 (some (.d (.int x)))) = some (.d (.int 0)) from rfl)).trans rfl
  have step : ∀ (x : Int) (ds es : List D), lcL (gNm 2) mYes (mOp fEq (mOp fMod (mVar 2) (mVar 1)) (mC (.d (.int 0)))) ρ ds = some es → lcL (gNm 2) mYes (mOp fEq (mOp fMod (mVar 2) (mVar 1)) (mC (.d (.int 0)))) ρ (.int x :: ds) = some (.bl (x.fmod p == 0) :: es) := fun x ds es k => by
    show (match (mOp fEq (mOp fMod (mVar 2) (mVar 1)) (mC (.d (.int 0)))) (ρ.set 2 (some (.d (.int x)))) with
      | some (.d y) => (match lcL (gNm 2) mYes (mOp fEq (mOp fMod (mVar 2) (mVar 1)) (mC (.d (.int 0)))) ρ ds with
        | some ys => some (y :: ys)
        | none => none)
      | _ => none) = _
    rw [one, k]
  have all := step a _ _ (step b _ _ (step c _ _ (step d [] [] rfl)))
  have e1 := lc_of (ρ := ρ) (it := itT (mVar 0)) (vs := [2]) (g := gNm 2) (c := mYes) rfl all (show 4 ≤ 1000 by decide)
  refine fn_ret (s := s_is_divided) (ρ := ρ) rfl ((call_of (f := bAll) (cons_of (r := mNil) e1 rfl)).trans ?_)
  show some (W.d (.bl (List.all [a.fmod p == 0, b.fmod p == 0, c.fmod p == 0, d.fmod p == 0] id))) = _
  unfold rowIn
  simp only [List.all_cons, List.all_nil, id, Bool.and_true]
/-! is_heavy -/
theorem heavy_val {a b c d p x y : Int} (ha : small a = true) (hb : small b = true) (hc : small c = true) (hd : small d = true) (hp : small p = true) (hx : small x = true) (hy : small y = true) (p0 : p ≠ 0) : m_is_heavy [.d (.tup [.int a, .int b, .int c, .int d]), .d (.int p), .d (.tup [.int x, .int y])] = (match decide ((v_form_at a b c d x y).fmod (p * p) = 0) with
    | true => (match decide (x = 1) && decide (y = 0) with
      | true => some (.d (.bl (b.fmod p == 0)))
      | false => some (.d (.bl ((3 * a * x * x + 2 * b * x + c).fmod p == 0))))
    | false => some (.d (.bl false))) := by
  show x_is_heavy _ = _
  unfold x_is_heavy
  simp only [ha, hb, hc, hd, hp, hx, hy, decide_eq_true p0, Bool.and_self] <;> rfl
theorem heavy_one {a b c d p x : Int} (ha : small a = true) (hb : small b = true) (hc : small c = true) (hd : small d = true) (hp : small p = true) (hx : small x = true) (p0 : p ≠ 0) : m_is_heavy [.d (.tup [.int a, .int b, .int c, .int d]), .d (.int p), .d (.tup [.int x, .int 1])] = some (.d (.bl (hvAt a b c d p (p * p) x))) := by
  rw [heavy_val ha hb hc hd hp hx (by decide) p0]
  have e : v_form_at a b c d x 1 = ((a * x + b) * x + c) * x + d := by
    unfold v_form_at
    simp only [Int.mul_one]
  have n : (decide (x = 1) && decide ((1 : Int) = 0)) = false := by
    rw [show decide ((1 : Int) = 0) = false from rfl, Bool.and_false]
  rw [e, n]
  unfold hvAt
  cases q : (((a * x + b) * x + c) * x + d).fmod (p * p) == 0 with
  | true =>
    rw [decide_eq_true (eq_of_beq q)]
  | false =>
    rw [decide_eq_false (ne_of_beq_false q)]
theorem heavy_end {a b c d p : Int} (ha : small a = true) (hb : small b = true) (hc : small c = true) (hd : small d = true) (hp : small p = true) (p0 : p ≠ 0) : m_is_heavy [.d (.tup [.int a, .int b, .int c, .int d]), .d (.int p), .d (.tup [.int 1, .int 0])] = some (.d (.bl (a.fmod (p * p) == 0 && b.fmod p == 0))) := by
  rw [heavy_val ha hb hc hd hp (by decide) (by decide) p0]
  have e : v_form_at a b c d 1 0 = a := by
    unfold v_form_at
    simp only [Int.mul_one, Int.mul_zero, Int.add_zero]
  rw [e, show (decide ((1 : Int) = 1) && decide ((0 : Int) = 0)) = true from rfl]
  cases q : a.fmod (p * p) == 0 with
  | true =>
    rw [decide_eq_true (eq_of_beq q)]
    rfl
  | false =>
    rw [decide_eq_false (ne_of_beq_false q)]
    rfl
/-! the first heavy one -/
abbrev tHv : M Bool := mTest (mCall m_is_heavy (mCons (mVar 0) (mCons (mVar 1) (mCons (mVar 2) mNil))))
abbrev eHv (a b c d p : Int) : DL.Env := [some (.d (.tup [.int a, .int b, .int c, .int d])), some (.d (.int p)), none]
theorem tHv_of {a b c d p x y : Int} {k : Bool} (h : m_is_heavy [.d (.tup [.int a, .int b, .int c, .int d]), .d (.int p), .d (.tup [.int x, .int y])] = some (.d (.bl k))) : tHv ((eHv a b c d p).set 2 (some (.d (tupK [x, y])))) = some k := test_of ((call_of (f := m_is_heavy) (xs := [.d (.tup [.int a, .int b, .int c, .int d]), .d (.int p), .d (.tup [.int x, .int y])]) rfl).trans h)
theorem next_cons {i : Nat} {t : M Bool} {ρ : DL.Env} {d : D} {ds : List D} {k : Bool} (h : t (ρ.set i (some (.d d))) = some k) : nextL i t ρ (d :: ds) = cond k (some (.d d)) (nextL i t ρ ds) := by
  show (match t (ρ.set i (some (.d d))) with
    | some true => some (W.d d)
    | some false => nextL i t ρ ds
    | none => none) = _
  rw [h]
  cases k <;> rfl
theorem small_nat {n : Nat} (h : n ≤ 1000) : small (.ofNat n) = true := Nat.blt_eq.mpr (show n < _ by omega)
theorem next_scan {a b c d p : Int} (ha : small a = true) (hb : small b = true) (hc : small c = true) (hd : small d = true) (hp : small p = true) (p0 : p ≠ 0) : ∀ (n x : Nat), x + n ≤ 1000 → nextL 2 tHv (eHv a b c d p) ((plK (.ofNat x) n).map tupK) = some (.d (scanH a b c d p (p * p) n x))
  | 0, _, _ => rfl
  | n + 1, x, h => by
    have e := next_cons (ds := (plK (.ofNat x + 1) n).map tupK) (tHv_of (heavy_one (x := .ofNat x) ha hb hc hd hp (small_nat (by omega)) p0))
    refine (show nextL 2 tHv (eHv a b c d p) (tupK [.ofNat x, 1] :: (plK (.ofNat x + 1) n).map tupK) = _ from e).trans ?_
    unfold scanH
    rw [frcN_eq]
    cases hvAt a b c d p (p * p) (.ofNat x) with
    | true => rfl
    | false => exact next_scan ha hb hc hd hp p0 n (x + 1) (by omega)
theorem next_first {a b c d p : Int} {n : Nat} (ha : small a = true) (hb : small b = true) (hc : small c = true) (hd : small d = true) (hp : small p = true) (p0 : p ≠ 0) (h : n + 1 ≤ 990) : nextL 2 tHv (eHv a b c d p) (([0, 1] :: [1, 0] :: plK 1 n).map tupK) = some (.d (firstH a b c d p (p * p) n)) := by
  refine (show nextL 2 tHv (eHv a b c d p) (tupK [0, 1] :: tupK [1, 0] :: (plK 1 n).map tupK) = _ from next_cons (tHv_of (heavy_one (x := 0) ha hb hc hd hp (by decide) p0))).trans ?_
  unfold firstH
  cases hvAt a b c d p (p * p) 0 with
  | true => rfl
  | false =>
    refine (next_cons (tHv_of (heavy_end ha hb hc hd hp p0))).trans ?_
    cases a.fmod (p * p) == 0 && b.fmod p == 0 with
    | true => rfl
    | false => exact next_scan ha hb hc hd hp p0 n 1 (by omega)
theorem barD_of {x : D} {ρ : DL.Env} {p : Int} (h2 : mVar 2 ρ = some (.d x)) (h1 : mVar 1 ρ = some (.d (.int p))) : mIf (mTest (mOp fIsN (mVar 2) (mC (.d .non)))) (mC (.d .non)) (mTup (mCons (mC (.d c_PLACE)) (mCons (mVar 1) (mCons (mVar 2) mNil)))) ρ = some (.d (barD p x)) := by
  have f : fIsN (W.d x) (W.d .non) = some (W.d (.bl (isNon x))) := rfl
  have t := test_of ((op_of (f := fIsN) h2 (show mC (.d .non) ρ = some (.d .non) from rfl)).trans f)
  have e := tup3 (show mC (.d c_PLACE) ρ = some (.d c_PLACE) from rfl) h1 h2
  unfold mIf
  rw [t]
  cases x <;> first | rfl | exact e
theorem weak_bar_at (ws : List W) (r : W) (h : x_bar_at ws = some r) : o_bar_at ws = some r := by
  unfold x_bar_at at h
  split at h
  · rename_i a b c d p
    split at h
    · rename_i hs
      simp only [Bool.and_eq_true] at hs
      obtain ⟨⟨⟨⟨ha, hb⟩, hc⟩, hd⟩, h1, h2⟩ := hs
      have h1 := Nat.ble_eq.mp h1
      have h2 := Nat.ble_eq.mp h2
      have hp : small (.ofNat p) = true := small_nat (by omega)
      have p0 : (Int.ofNat p) ≠ 0 := fun z => by
        have z : ((p : Nat) : Int) = 0 := z
        omega
      have t1 : mTest (mCall m_is_divided (mCons (mVar 0) (mCons (mVar 1) mNil))) (eHv a b c d (.ofNat p)) = some (rowIn a b c d (.ofNat p)) := test_of (divided_val (a := a) (b := b) (c := c) (d := d) p0)
      split at h
      · rename_i hr
        cases h
        rw [hr] at t1
        show mFn 3 s_bar_at _ = _
        unfold mFn
        have e : s_bar_at (env0 3 [.d (.tup [.int a, .int b, .int c, .int d]), .d (.int (.ofNat p))]) = some (.rt (.d (.tup [c_CONTENT, .int (.ofNat p)]))) := by
          show sSeq _ _ (eHv a b c d (.ofNat p)) = _
          unfold sSeq sIf
          rw [t1]
          rfl
        rw [e]
      · rename_i hr
        simp only [frcN_eq] at h
        cases h
        rw [hr] at t1
        obtain ⟨n, rfl⟩ : ∃ n, p = n + 1 := ⟨p - 1, by omega⟩
        have first : sIf (mTest (mCall m_is_divided (mCons (mVar 0) (mCons (mVar 1) mNil)))) (sRet (mTup (mCons (mC (.d c_CONTENT)) (mCons (mVar 1) mNil)))) sNx (eHv a b c d (.ofNat (n + 1))) = some (.nx (eHv a b c d (.ofNat (n + 1)))) := by
          unfold sIf
          rw [t1]
          rfl
        have pl : itLC (mCall m_places_at (mCons (mVar 1) mNil)) (eHv a b c d (.ofNat (n + 1))) = some (([0, 1] :: [1, 0] :: plK 1 n).map tupK) := by
          have e := (call_of (f := m_places_at) (r := mCons (mVar 1) mNil) (ρ := eHv a b c d (.ofNat (n + 1))) (xs := [.d (.int (.ofNat (n + 1)))]) rfl).trans (places_val h2)
          unfold itLC
          rw [e]
        have nx : mNext (itLC (mCall m_places_at (mCons (mVar 1) mNil))) 2 tHv (eHv a b c d (.ofNat (n + 1))) = some (.d (firstH a b c d (.ofNat (n + 1)) (.ofNat (n + 1) * .ofNat (n + 1)) n)) := by
          have e := next_first (n := n) ha hb hc hd hp p0 h2
          unfold mNext
          rw [pl]
          exact e
        refine fn_ret (s := s_bar_at) (ρ := (eHv a b c d (.ofNat (n + 1))).set 2 (some (.d (firstH a b c d (.ofNat (n + 1)) (.ofNat (n + 1) * .ofNat (n + 1)) n)))) ?_ (barD_of rfl rfl)
        show sSeq _ _ (eHv a b c d (.ofNat (n + 1))) = _
        refine (seq_nx first).trans ?_
        exact seq_nx (set_ie nx)
    · cases h
  · cases h
theorem forL_cons {g : D → DL.Env → Option DL.Env} {b : M Out} {d : D} {ds : List D} {ρ ρ1 ρ2 : DL.Env} (h : g d ρ = some ρ1) (k : b ρ1 = some (.nx ρ2)) : forL g b (d :: ds) ρ = forL g b ds ρ2 := by
  show (match g d ρ with
    | some ρ1 => (match b ρ1 with
      | some (.nx ρ2) => forL g b ds ρ2
      | some (.ct ρ2) => forL g b ds ρ2
      | some (.bk ρ2) => (match noLst ρ2 with
        | true => some (Out.nx ρ2)
        | false => none)
      | some (.rt x) => some (.rt x)
      | none => none)
    | none => none) = _
  rw [h]
  dsimp only
  rw [k]
theorem led_loop {row way here hess : D} : ∀ (ds : List D) (f l f' l' : D) (x4 x7 : Option D), ledL here hess ds f l = some (f', l') → ∃ y4 y7 : Option D, forL (gNm 4) bodyL ds (envL row way here hess x4 f l x7) = some (.nx (envL row way here hess y4 f' l' y7))
  | [], f, l, f', l', x4, x7, h => by
    cases h
    refine ⟨x4, x7, ?_⟩
    cases x4 <;> cases x7 <;> rfl
  | d :: ds, f, l, f', l', x4, x7, h => by
    unfold ledL at h
    have g : gNm 4 d (envL row way here hess x4 f l x7) = some (envL row way here hess (some d) f l x7) := rfl
    split at h
    · rename_i o ho
      have e1 : sSet 7 (mCall m_form_led (mCons (mVar 2) (mCons (mVar 4) mNil))) (envL row way here hess (some d) f l x7) = some (.nx (envL row way here hess (some d) f l (some o))) := set_ie ((call_of (f := m_form_led) (xs := [.d here, .d d]) rfl).trans ho)
      have stay : sIf (mAnd (mTest (mOp fGt (mVar 7) (mVar 5))) (mTest (mOp fEq (mCall m_hessian_of (mCons (mVar 7) mNil)) (mVar 3)))) (sPar 5 6 (mVar 7) (mVar 4)) sNx (envL row way here hess (some d) f l (some o)) = some (.nx (envL row way here hess (some d) f l (some o))) → ledL here hess ds f l = some (f', l') → ∃ y4 y7 : Option D, forL (gNm 4) bodyL (d :: ds) (envL row way here hess x4 f l x7) = some (.nx (envL row way here hess y4 f' l' y7)) := fun e2 h => by
        obtain ⟨y4, y7, e⟩ := led_loop (row := row) (way := way) ds f l f' l' (some d) (some o) h
        exact ⟨y4, y7, (forL_cons g ((seq_nx e1).trans e2)).trans e⟩
      split at h
      · rename_i hg
        have t1 := test_of ((op_of (f := fGt) (a := mVar 7) (b := mVar 5) (ρ := envL row way here hess (some d) f l (some o)) rfl rfl).trans hg)
        split at h
        · rename_i e he
          have c1 : mCall m_hessian_of (mCons (mVar 7) mNil) (envL row way here hess (some d) f l (some o)) = some (.d e) := (call_of (f := m_hessian_of) (xs := [.d o]) rfl).trans he
          split at h
          · rename_i hq
            have t2 := test_of ((op_of (f := fEq) c1 (show mVar 3 (envL row way here hess (some d) f l (some o)) = some (.d hess) from rfl)).trans hq)
            have e2 : sIf (mAnd (mTest (mOp fGt (mVar 7) (mVar 5))) (mTest (mOp fEq (mCall m_hessian_of (mCons (mVar 7) mNil)) (mVar 3)))) (sPar 5 6 (mVar 7) (mVar 4)) sNx (envL row way here hess (some d) f l (some o)) = some (.nx (envL row way here hess (some d) o d (some o))) := by
              unfold sIf mAnd
              rw [t1]
              dsimp only
              rw [t2]
              rfl
            obtain ⟨y4, y7, e⟩ := led_loop (row := row) (way := way) ds o d f' l' (some d) (some o) h
            exact ⟨y4, y7, (forL_cons g ((seq_nx e1).trans e2)).trans e⟩
          · rename_i hq
            have t2 := test_of ((op_of (f := fEq) c1 (show mVar 3 (envL row way here hess (some d) f l (some o)) = some (.d hess) from rfl)).trans hq)
            refine stay ?_ h
            unfold sIf mAnd
            rw [t1]
            dsimp only
            rw [t2]
            rfl
          · cases h
        · cases h
      · rename_i hg
        have t1 := test_of ((op_of (f := fGt) (a := mVar 7) (b := mVar 5) (ρ := envL row way here hess (some d) f l (some o)) rfl rfl).trans hg)
        refine stay ?_ h
        unfold sIf mAnd
        rw [t1]
        rfl
      · cases h
    · cases h
theorem weak_led_above (ws : List W) (r : W) (h : x_led_above ws = some r) : o_led_above ws = some r := by
  unfold x_led_above at h
  split at h
  · rename_i a b c d
    simp only [frc_eq] at h
    generalize D.tup [.int a, .int b, .int c, .int d] = row at h ⊢
    unfold ledF at h
    split at h
    · rename_i way h1
      split at h
      · rename_i here h2
        split at h
        · rename_i hess h3
          split at h
          · rename_i f l h4
            split at h
            · rename_i j h5
              cases h
              obtain ⟨y4, y7, e5⟩ := led_loop (row := row) (way := way) chsL here c_IDLE f l none none h4
              have s1 := set_ie (i := 1) (ρ := [some (.d row), none, none, none, none, none, none, none]) ((call_of (f := m_way_to_small) (r := mCons (mVar 0) mNil) (xs := [.d row]) rfl).trans h1)
              have s2 := set_ie (i := 2) (ρ := [some (.d row), some (.d way), none, none, none, none, none, none]) ((call_of (f := m_form_led) (r := mCons (mVar 0) (mCons (mVar 1) mNil)) (xs := [.d row, .d way]) rfl).trans h2)
              have s3 := set_ie (i := 3) (ρ := [some (.d row), some (.d way), some (.d here), none, none, none, none, none]) ((call_of (f := m_hessian_of) (r := mCons (mVar 2) mNil) (xs := [.d here]) rfl).trans h3)
              have s4 : sPar 5 6 (mVar 2) (mC (.d c_IDLE)) [some (.d row), some (.d way), some (.d here), some (.d hess), none, none, none, none] = some (.nx (envL row way here hess none here c_IDLE none)) := rfl
              have s5 : sFor (itL (mCall m_small_changes mNil)) (gNm 4) bodyL (envL row way here hess none here c_IDLE none) = some (.nx (envL row way here hess y4 f l y7)) := e5
              refine fn_ret (s := s_led_above) (ρ := envL row way here hess y4 f l y7) ?_ (tup2 (show mVar 5 (envL row way here hess y4 f l y7) = some (.d f) from rfl) ((call_of (f := m_joined_in) (r := mCons (mVar 1) (mCons (mVar 6) mNil)) (xs := [.d way, .d l]) rfl).trans h5))
              show sSeq _ _ [some (.d row), none, none, none, none, none, none, none] = _
              exact (seq_nx s1).trans ((seq_nx s2).trans ((seq_nx s3).trans ((seq_nx s4).trans (seq_nx s5))))
            · cases h
          · cases h
        · cases h
      · cases h
    · cases h
  · cases h
theorem dec_le (a b : Nat) : decide (Int.ofNat a ≤ Int.ofNat b) = Nat.ble a b := by
  cases h : Nat.ble a b with
  | true => exact decide_eq_true (Int.ofNat_le.mpr (Nat.ble_eq.mp h))
  | false => exact decide_eq_false fun z => Bool.noConfusion (h.symm.trans (Nat.ble_eq.mpr (Int.ofNat_le.mp z)))
theorem dec_lt (a b : Nat) : decide (Int.ofNat a < Int.ofNat b) = Nat.blt a b := dec_le (a + 1) b
theorem mul_val {i j : Int} (hi : small i = true) (hj : small j = true) : fMul (.d (.int i)) (.d (.int j)) = some (.d (.int (i * j))) := (IE.run (ρ := []) (.mul (.x (mC (.d (.int i))) 100 i) (.x (mC (.d (.int j))) 100 j)) ⟨⟨by decide, rfl, small_ok hi⟩, ⟨by decide, rfl, small_ok hj⟩⟩ (show (200 : Nat) ≤ 10000 by decide)).1
theorem small_up {n : Nat} (h : n ≤ 1000000) : small (.ofNat n) = true := Nat.blt_eq.mpr (show n < _ by omega)
theorem div_val {n v : Nat} (h1 : 1 ≤ v) (h2 : v ≤ 2000) : fDiv (.d (.int (.ofNat n))) (.d (.int (.ofNat v))) = some (.d (.int (.ofNat (n / v)))) := by
  have g : (decide ((Int.ofNat v) ≠ 0) && Nat.blt (Int.ofNat v).natAbs 1073741824) = true := by
    rw [decide_eq_true (show (Int.ofNat v) ≠ 0 from fun z => by
      have z : ((v : Nat) : Int) = 0 := z
      omega)]
    exact Nat.blt_eq.mpr (show v < 1073741824 by omega)
  unfold fDiv
  dsimp only
  rw [g]
  show some (W.d (.int ((Int.ofNat n).fdiv (Int.ofNat v)))) = _
  rw [show (Int.ofNat n).fdiv (Int.ofNat v) = Int.ofNat (n / v) from (Int.ofNat_fdiv n v).symm]
abbrev envR (n v : Nat) (t u : Option D) : DL.Env := [some (.d (.int (.ofNat n))), some (.d (.int (.ofNat v))), t.map W.d, u.map W.d]
abbrev cR : M Bool := mTest (mOp fLe (mOp fMul (mVar 1) (mVar 1)) (mVar 0))
abbrev bR : M Out := sSet 1 (mOp fMul (mVar 1) (mC (.d (.int 2))))
theorem up_loop {n : Nat} (hn : n ≤ 1000000) : ∀ (k v v' : Nat), v ≤ 2000 → upF n k v = some v' → whileN k cR bR (envR n v none none) = some (.nx (envR n v' none none))
  | 0, _, _, _, h => by cases h
  | k + 1, v, v', hv, h => by
    unfold upF at h
    rw [frcN_eq] at h
    have c : cR (envR n v none none) = some (Nat.ble (v * v) n) := by
      refine test_of ((op_of (f := fLe) ((op_of (f := fMul) rfl rfl).trans (mul_val (i := .ofNat v) (j := .ofNat v) (small_up (by omega)) (small_up (by omega)))) (show mVar 0 (envR n v none none) = some (.d (.int (.ofNat n))) from rfl)).trans ?_)
      rw [← dec_le]
      rfl
    have b : bR (envR n v none none) = some (.nx (envR n (v * 2) none none)) := set_ie ((op_of (f := fMul) rfl rfl).trans (mul_val (i := .ofNat v) (j := 2) (small_up (by omega)) (by decide)))
    show (match cR (envR n v none none) with
      | some true => (match bR (envR n v none none) with
        | some (.nx ρ') => whileN k cR bR ρ'
        | some (.ct ρ') => whileN k cR bR ρ'
        | some (.bk ρ') => some (Out.nx ρ')
        | some (.rt x) => some (.rt x)
        | none => none)
      | some false => some (.nx (envR n v none none))
      | none => none) = _
    rw [c]
    split at h
    · rename_i e
      rw [e]
      dsimp only
      rw [b]
      have := Nat.ble_eq.mp e
      exact up_loop hn k (v * 2) v' (by
        by_cases q : v ≤ 1000
        · omega
        · have : 1001 * 1001 ≤ v * v := Nat.mul_le_mul (by omega) (by omega)
          omega) h
    · rename_i e
      rw [e]
      cases h
      rfl
abbrev bN : M Out := (sSeq (sSet 3 (mOp fDiv (mOp fAdd (mVar 1) (mOp fDiv (mVar 0) (mVar 1))) (mC (.d (.int 2))))) (sSeq (sIf (mTest (mOp fGe (mVar 3) (mVar 1))) sBk sNx) (sSet 1 (mVar 3))))
theorem newt_loop {n : Nat} : ∀ (k v r : Nat) (x : Int) (t u : Option D), newtF n k v = some r → ∃ t' u' : Option D, forL (gNm 2) bN ((DL.intsFrom x k).map DL.intD) (envR n v t u) = some (.nx (envR n r t' u'))
  | 0, v, r, x, t, u, h => by
    cases h
    refine ⟨t, u, ?_⟩
    cases t <;> cases u <;> rfl
  | k + 1, v, r, x, t, u, h => by
    unfold newtF at h
    rw [frcN_eq] at h
    split at h
    · rename_i e
      simp only [Bool.and_eq_true] at e
      have v1 := Nat.ble_eq.mp e.1
      have v2 := Nat.ble_eq.mp e.2
      have g : gNm 2 (.int x) (envR n v t u) = some (envR n v (some (.int x)) u) := rfl
      have e1 : sSet 3 (mOp fDiv (mOp fAdd (mVar 1) (mOp fDiv (mVar 0) (mVar 1))) (mC (.d (.int 2)))) (envR n v (some (.int x)) u) = some (.nx (envR n v (some (.int x)) (some (.int (.ofNat ((v + n / v) / 2)))))) := set_ie ((op_of (f := fDiv) ((op_of (f := fAdd) (show mVar 1 (envR n v (some (.int x)) u) = some (.d (.int (.ofNat v))) from rfl) ((op_of (f := fDiv) rfl rfl).trans (div_val v1 v2))).trans (show _ = some (.d (.int (.ofNat (v + n / v)))) from rfl)) rfl).trans (div_val (v := 2) (by decide) (by decide)))
      have t1 : mTest (mOp fGe (mVar 3) (mVar 1)) (envR n v (some (.int x)) (some (.int (.ofNat ((v + n / v) / 2))))) = some (Nat.ble v ((v + n / v) / 2)) := by
        refine test_of ((op_of (f := fGe) rfl rfl).trans ?_)
        rw [← dec_le]
        rfl
      split at h
      · rename_i le
        cases h
        rw [le] at t1
        refine ⟨some (.int x), some (.int (.ofNat ((v + n / v) / 2))), ?_⟩
        have e2 : bN (envR n v (some (.int x)) u) = some (.bk (envR n v (some (.int x)) (some (.int (.ofNat ((v + n / v) / 2)))))) := by
          refine (seq_nx e1).trans ?_
          unfold sSeq sIf
          rw [t1]
          rfl
        show (match gNm 2 (.int x) (envR n v t u) with
          | some ρ1 => (match bN ρ1 with
            | some (.nx ρ2) => forL (gNm 2) bN ((DL.intsFrom (x + 1) k).map DL.intD) ρ2
            | some (.ct ρ2) => forL (gNm 2) bN ((DL.intsFrom (x + 1) k).map DL.intD) ρ2
            | some (.bk ρ2) => (match noLst ρ2 with
              | true => some (Out.nx ρ2)
              | false => none)
            | some (.rt x) => some (.rt x)
            | none => none)
          | none => none) = _
        rw [g]
        dsimp only
        rw [e2]
        rfl
      · rename_i le
        rw [le] at t1
        have e2 : bN (envR n v (some (.int x)) u) = some (.nx (envR n ((v + n / v) / 2) (some (.int x)) (some (.int (.ofNat ((v + n / v) / 2)))))) := by
          have s2 : sIf (mTest (mOp fGe (mVar 3) (mVar 1))) sBk sNx (envR n v (some (.int x)) (some (.int (.ofNat ((v + n / v) / 2))))) = some (.nx (envR n v (some (.int x)) (some (.int (.ofNat ((v + n / v) / 2)))))) := by
            unfold sIf
            rw [t1]
            rfl
          have s3 : sSet 1 (mVar 3) (envR n v (some (.int x)) (some (.int (.ofNat ((v + n / v) / 2))))) = some (.nx (envR n ((v + n / v) / 2) (some (.int x)) (some (.int (.ofNat ((v + n / v) / 2)))))) := rfl
          exact (seq_nx e1).trans ((seq_nx s2).trans s3)
        obtain ⟨t', u', e3⟩ := newt_loop k ((v + n / v) / 2) r (x + 1) (some (.int x)) (some (.int (.ofNat ((v + n / v) / 2)))) h
        exact ⟨t', u', (forL_cons g e2).trans e3⟩
    · cases h
theorem weak__law_root (ws : List W) (r : W) (h : x__law_root ws = some r) : o__law_root ws = some r := by
  unfold x__law_root at h
  split at h
  · rename_i n
    split at h
    · rename_i hn
      have hn := Nat.ble_eq.mp hn
      have t1 : mTest (mOp fLt (mVar 0) (mC (.d (.int 2)))) [some (.d (.int (.ofNat n))), none, none, none] = some (Nat.blt n 2) := by
        refine test_of ((op_of (f := fLt) rfl rfl).trans ?_)
        rw [← dec_lt]
        rfl
      show mFn 4 s__law_root _ = _
      unfold mFn
      split at h
      · rename_i lt
        cases h
        rw [lt] at t1
        have e : s__law_root (env0 4 [.d (.int (.ofNat n))]) = some (.rt (.d (.int (.ofNat n)))) := by
          show sSeq _ _ [some (.d (.int (.ofNat n))), none, none, none] = _
          unfold sSeq sIf
          rw [t1]
          rfl
        rw [e]
      · rename_i lt
        rw [lt] at t1
        split at h
        · rename_i v hv
          split at h
          · rename_i z hz
            cases h
            obtain ⟨t', u', e3⟩ := newt_loop 600 v z 0 none none hz
            have s1 : sIf (mTest (mOp fLt (mVar 0) (mC (.d (.int 2))))) (sRetV 0) sNx [some (.d (.int (.ofNat n))), none, none, none] = some (.nx [some (.d (.int (.ofNat n))), none, none, none]) := by
              unfold sIf
              rw [t1]
              rfl
            have s2 : sSet 1 (mC (.d (.int 1))) [some (.d (.int (.ofNat n))), none, none, none] = some (.nx (envR n 1 none none)) := rfl
            have s3 : sWhile 64 cR bR (envR n 1 none none) = some (.nx (envR n v none none)) := up_loop hn 64 1 v (by decide) hv
            have s4 : sFor (itR1 (mC (.d (.int 600)))) (gNm 2) bN (envR n v none none) = some (.nx (envR n z t' u')) := e3
            have e : s__law_root (env0 4 [.d (.int (.ofNat n))]) = some (.rt (.d (.int (.ofNat z)))) := by
              show sSeq _ _ [some (.d (.int (.ofNat n))), none, none, none] = _
              exact (seq_nx s1).trans ((seq_nx s2).trans ((seq_nx s3).trans ((seq_nx s4).trans rfl)))
            rw [e]
          · cases h
        · cases h
    · cases h
  · cases h
theorem while_stop {k : Nat} {c : M Bool} {b : M Out} {ρ : DL.Env} (h : c ρ = some false) : whileN (k + 1) c b ρ = some (.nx ρ) := by
  unfold whileN
  rw [h]
theorem while_on {k : Nat} {c : M Bool} {b : M Out} {ρ ρ' : DL.Env} (h : c ρ = some true) (g : b ρ = some (.nx ρ')) : whileN (k + 1) c b ρ = whileN k c b ρ' := by
  conv => lhs; unfold whileN
  rw [h]
  dsimp only
  rw [g]
theorem seq_rt {s t : M Out} {ρ : DL.Env} {x : W} (h : s ρ = some (.rt x)) : sSeq s t ρ = some (.rt x) := by
  unfold sSeq
  rw [h]
theorem skip_ok {c : Nat} (hc : 2 ≤ c) : ∀ (k p : Nat) (x : Option W) (o : Out), 1 ≤ p → skipF c k p x = some o → whileN k cP bP (envP c p x) = some o
  | 0, _, _, _, _, h => by cases h
  | k + 1, p, x, o, hp, h => by
    unfold skipF at h
    rw [frcN_eq] at h
    split at h
    · exact h
    · rename_i e
      have t : cP (envP c p x) = some true := by
        refine test_of ((op_of (f := fGt) rfl rfl).trans ?_)
        show some (W.d (.bl (decide ((1 : Int) < Int.ofNat c)))) = _
        rw [decide_eq_true (show (1 : Int) < Int.ofNat c from (show (1 : Int) < ((c : Nat) : Int) by omega))]
      have p0 : (Int.ofNat p) ≠ 0 := fun z => by
        have z : ((p : Nat) : Int) = 0 := z
        omega
      have ne : c % p ≠ 0 := fun z => by
        rw [z] at e
        cases e
      have ti : (mTest (mOp fEq (mOp fMod (mVar 1) (mVar 3)) (mC (.d (.int 0))))) (envP c p (some (.d (.int 0)))) = some false := by
        refine test_of ((op_of (f := fEq) ((op_of (f := fMod) rfl rfl).trans (mod_of p0)) rfl).trans ?_)
        show some (W.d (.bl ((Int.ofNat c).fmod (Int.ofNat p) == 0))) = _
        rw [show (Int.ofNat c).fmod (Int.ofNat p) = Int.ofNat (c % p) from (Int.ofNat_fmod c p).symm]
        rw [show (Int.ofNat (c % p) == 0) = false from beq_eq_false_iff_ne.mpr fun z => ne (Int.ofNat.inj z)]
      have e1 : sSet 4 (mC (.d (.int 0))) (envP c p x) = some (.nx (envP c p (some (.d (.int 0))))) := rfl
      have e2 : sWhile 400 (mTest (mOp fEq (mOp fMod (mVar 1) (mVar 3)) (mC (.d (.int 0))))) (sPar 1 4 (mOp fDiv (mVar 1) (mVar 3)) (mOp fAdd (mVar 4) (mC (.d (.int 1))))) (envP c p (some (.d (.int 0)))) = some (.nx (envP c p (some (.d (.int 0))))) := while_stop (k := 399) ti
      have e3 : (sIf (mTest (mOp fGt (mVar 4) (mC (.d (.int 0))))) (sSeq (sIf (mOr (mTest (mOp fNe (mVar 4) (mIf (mTest (mOp fEq (mVar 3) (mC (.d (.int 3))))) (mC (.d (.int 2))) (mC (.d (.int 1)))))) (mTest (mOp fEq (mOp fMod (mVar 3) (mC (.d (.int 3)))) (mC (.d (.int 2)))))) (sRet (mC (.d (.int 0)))) sNx) (sSet 2 (mOp fAdd (mVar 2) (mC (.d (.int 1)))))) sNx) (envP c p (some (.d (.int 0)))) = some (.nx (envP c p (some (.d (.int 0))))) := rfl
      have e4 : sSet 3 (mOp fAdd (mVar 3) (mC (.d (.int 1)))) (envP c p (some (.d (.int 0)))) = some (.nx (envP c (p + 1) (some (.d (.int 0))))) := rfl
      have b : bP (envP c p x) = some (.nx (envP c (p + 1) (some (.d (.int 0))))) := (seq_nx e1).trans ((seq_nx e2).trans ((seq_nx e3).trans e4))
      exact (while_on t b).trans (skip_ok hc k (p + 1) (some (.d (.int 0))) o (by omega) h)
theorem weak__law_parts_of (ws : List W) (r : W) (h : x__law_parts_of ws = some r) : o__law_parts_of ws = some r := by
  unfold x__law_parts_of at h
  split at h
  · rename_i c
    split at h
    · rename_i hc
      have hc := Nat.ble_eq.mp hc
      have s1 : sPar3 1 2 3 (mCall bInt (mCons (mVar 0) mNil)) (mC (.d (.int 0))) (mC (.d (.int 2))) [some (.d (.int (.ofNat c))), none, none, none, none] = some (.nx (envP c 2 none)) := rfl
      show mFn 5 s__law_parts_of _ = _
      unfold mFn
      split at h
      · rename_i ρ q
        have w := skip_ok hc 400 2 none _ (by decide) q
        have e : s__law_parts_of (env0 5 [.d (.int (.ofNat c))]) = sRetV 2 ρ := by
          show sSeq _ _ [some (.d (.int (.ofNat c))), none, none, none, none] = _
          exact (seq_nx s1).trans (seq_nx w)
        rw [e]
        split at h
        · rename_i y z
          rw [z]
          exact h
        · cases h
      · rename_i y q
        cases h
        have w := skip_ok hc 400 2 none _ (by decide) q
        have e : s__law_parts_of (env0 5 [.d (.int (.ofNat c))]) = some (.rt r) := by
          show sSeq _ _ [some (.d (.int (.ofNat c))), none, none, none, none] = _
          exact (seq_nx s1).trans (seq_rt w)
        rw [e]
      · cases h
    · exact h
  · cases h
theorem skipD_ok {n : Nat} : ∀ (k p : Nat) (o : Out), 1 ≤ p → k + p ≤ 2000 → skipD n k p = some o → whileN k cD bD (envD n p) = some o
  | 0, _, _, _, _, h => by cases h
  | k + 1, p, o, hp, hk, h => by
    unfold skipD at h
    rw [frcN_eq] at h
    split at h
    · rename_i e
      simp only [Bool.and_eq_true] at e
      have t : cD (envD n p) = some true := by
        refine test_of ((op_of (f := fLe) ((op_of (f := fMul) rfl rfl).trans (mul_val (i := .ofNat p) (j := .ofNat p) (small_up (by omega)) (small_up (by omega)))) (show mVar 0 (envD n p) = some (.d (.int (.ofNat n))) from rfl)).trans ?_)
        show some (W.d (.bl (decide (Int.ofNat (p * p) ≤ Int.ofNat n)))) = _
        rw [dec_le, e.1]
      have p0 : (Int.ofNat p) ≠ 0 := fun z => by
        have z : ((p : Nat) : Int) = 0 := z
        omega
      have ne : n % p ≠ 0 := fun z => by
        have e := e.2
        rw [z] at e
        cases e
      have ti :  (mTest (mOp fEq (mOp fMod (mVar 0) (mVar 2)) (mC (.d (.int 0))))) (envD n p) = some false := by
        refine test_of ((op_of (f := fEq) ((op_of (f := fMod) rfl rfl).trans (mod_of p0)) rfl).trans ?_)
        show some (W.d (.bl ((Int.ofNat n).fmod (Int.ofNat p) == 0))) = _
        rw [show (Int.ofNat n).fmod (Int.ofNat p) = Int.ofNat (n % p) from (Int.ofNat_fmod n p).symm]
        rw [show (Int.ofNat (n % p) == 0) = false from beq_eq_false_iff_ne.mpr fun z => ne (Int.ofNat.inj z)]
      have e1 : (sIf (mTest (mOp fEq (mOp fMod (mVar 0) (mVar 2)) (mC (.d (.int 0))))) (sSeq (sSet 3 (mC (.d (.int 0)))) (sSeq (sWhile 1000 (mTest (mOp fEq (mOp fMod (mVar 0) (mVar 2)) (mC (.d (.int 0))))) (sPar 0 3 (mOp fDiv (mVar 0) (mVar 2)) (mOp fAdd (mVar 3) (mC (.d (.int 1)))))) (sIf (mTest (mOp fGt (mVar 3) (mC (.d (.int 1))))) (sAppend 1 (mVar 2)) sNx))) sNx) (envD n p) = some (.nx (envD n p)) := by
        unfold sIf
        rw [ti]
        rfl
      have e2 : sAug 2 fAdd (mC (.d (.int 1))) (envD n p) = some (.nx (envD n (p + 1))) := rfl
      have b : bD (envD n p) = some (.nx (envD n (p + 1))) := (seq_nx e1).trans e2
      exact (while_on t b).trans (skipD_ok k (p + 1) o (by omega) (by omega) h)
    · exact h
theorem weak_double_primes (ws : List W) (r : W) (h : x_double_primes ws = some r) : o_double_primes ws = some r := by
  unfold x_double_primes at h
  split at h
  · rename_i n
    have s1 : sPar 1 2 (mLst mNil) (mC (.d (.int 2))) [some (.d (.int (.ofNat n))), none, none, none] = some (.nx (envD n 2)) := rfl
    show mFn 4 s_double_primes _ = _
    unfold mFn
    split at h
    · rename_i ρ q
      have w := skipD_ok 1000 2 _ (by decide) (by decide) q
      have e : s_double_primes (env0 4 [.d (.int (.ofNat n))]) = sRetV 1 ρ := by
        show sSeq _ _ [some (.d (.int (.ofNat n))), none, none, none] = _
        exact (seq_nx s1).trans (seq_nx w)
      rw [e]
      split at h
      · rename_i y z
        rw [z]
        exact h
      · cases h
    · cases h
  · cases h
end F79
set_option Elab.async false
set_option linter.all false
set_option maxRecDepth 100000
set_option maxHeartbeats 4000000
namespace F79
open PySem PySem.Spec PyProof.Rows L2 DL
abbrev Tx (K : PySem.W.Frag) (mg : Str → Option Value) (base : Heap) : Prop := Told fsL dsL K mg base
section
variable {K : PySem.W.Frag} {mg : Str → Option Value} {base : Heap}
theorem n_abs (T : Tx K mg base) : mg "abs" = none := T.free 60
theorem n_len (T : Tx K mg base) : mg "len" = none := T.free 61
theorem n_tuple (T : Tx K mg base) : mg "tuple" = none := T.free 62
theorem n_int (T : Tx K mg base) : mg "int" = none := T.free 63
theorem n_all (T : Tx K mg base) : mg "all" = none := T.free 64
theorem n_any (T : Tx K mg base) : mg "any" = none := T.free 65
theorem n_sorted (T : Tx K mg base) : mg "sorted" = none := T.free 66
theorem n_set (T : Tx K mg base) : mg "set" = none := T.free 67
theorem n_isinstance (T : Tx K mg base) : mg "isinstance" = none := T.free 68
theorem n_max (T : Tx K mg base) : mg "max" = none := T.free 69
theorem n_min (T : Tx K mg base) : mg "min" = none := T.free 70
theorem n_range (T : Tx K mg base) : mg "range" = none := T.free 71
theorem n_next (T : Tx K mg base) : mg "next" = none := T.free 72
theorem n_bool (T : Tx K mg base) : mg "bool" = none := T.free 73
theorem n_sum (T : Tx K mg base) : mg "sum" = none := T.free 74
theorem n_gcd (T : Tx K mg base) : mg "gcd" = some (.builtin "math.gcd") := T.blt 75
theorem n_isqrt (T : Tx K mg base) : mg "isqrt" = some (.builtin "math.isqrt") := T.blt 76
theorem mg_KeptForm (T : Tx K mg base) : mg "KeptForm" = some (.ref (ca K .kf)) := T.glo 77
theorem cls_kf (T : Tx K mg base) : ClsF K .kf := T.cls 81
theorem slot_kf (T : Tx K mg base) : SlotF K .kf "own_numbers" := T.slot 85
theorem mg_Form (T : Tx K mg base) : mg "Form" = some (.ref (ca K .fm)) := T.glo 78
theorem cls_fm (T : Tx K mg base) : ClsF K .fm := T.cls 82
theorem slot_fm (T : Tx K mg base) : SlotF K .fm "own_coefficients" := T.slot 86
theorem mg_KeptDouble (T : Tx K mg base) : mg "KeptDouble" = some (.ref (ca K .kd)) := T.glo 79
theorem cls_kd (T : Tx K mg base) : ClsF K .kd := T.cls 83
theorem slot_kd (T : Tx K mg base) : SlotF K .kd "own_numbers" := T.slot 87
theorem mg_Double (T : Tx K mg base) : mg "Double" = some (.ref (ca K .db)) := T.glo 80
theorem cls_db (T : Tx K mg base) : ClsF K .db := T.cls 84
theorem slot_db (T : Tx K mg base) : SlotF K .db "own_coefficients" := T.slot 88
theorem g_SIXTY_DIGITS (T : Tx K mg base) : GlD K mg "SIXTY_DIGITS" c_SIXTY_DIGITS := T.con 98
theorem g_SIZE_doubles (T : Tx K mg base) : GlD K mg "SIZE_doubles" c_SIZE_doubles := T.con 99
theorem g_SIZE_forms (T : Tx K mg base) : GlD K mg "SIZE_forms" c_SIZE_forms := T.con 100
theorem g_END_lines (T : Tx K mg base) : GlD K mg "END_lines" c_END_lines := T.con 101
theorem g_SIGNS (T : Tx K mg base) : GlD K mg "SIGNS" c_SIGNS := T.con 102
theorem g_IDLE (T : Tx K mg base) : GlD K mg "IDLE" c_IDLE := T.con 103
theorem g_MIRRORED (T : Tx K mg base) : GlD K mg "MIRRORED" c_MIRRORED := T.con 104
theorem g_SWAPPED (T : Tx K mg base) : GlD K mg "SWAPPED" c_SWAPPED := T.con 105
theorem g_MOST_DIGITS_least (T : Tx K mg base) : GlD K mg "MOST_DIGITS_least" c_MOST_DIGITS_least := T.con 106
theorem g_END_steps (T : Tx K mg base) : GlD K mg "END_steps" c_END_steps := T.con 107
theorem g_MAX_STEPPED (T : Tx K mg base) : GlD K mg "MAX_STEPPED" c_MAX_STEPPED := T.con 108
theorem g_CONTENT (T : Tx K mg base) : GlD K mg "CONTENT" c_CONTENT := T.con 109
theorem g_PLACE (T : Tx K mg base) : GlD K mg "PLACE" c_PLACE := T.con 110
theorem g_MAX_CONDUCTOR (T : Tx K mg base) : GlD K mg "MAX_CONDUCTOR" c_MAX_CONDUCTOR := T.con 111
end
end F79
set_option Elab.async false
set_option linter.all false
set_option maxRecDepth 100000
set_option maxHeartbeats 4000000
namespace F79
open PySem PySem.Spec PyProof.Rows L2 DL
section
variable {P : Program} {w : World} {K : PySem.W.Frag} {mg : Str → Option Value} {base : Heap}
theorem sc_is_whole : FnScope ["value"] ["value"] (defScope (top 13)) := ⟨rfl, rfl, rfl, by decide +kernel, rfl, by decide +kernel, by decide +kernel⟩
theorem cal_is_whole (T : Tx K mg base) : Cal P w K mg base 1 "is_whole" 1 m_is_whole := by
  obtain ⟨fd, F⟩ := T.df 0 d_is_whole rfl
  exact cal_mk (fn_mk (N := ["value"]) (s := s_is_whole) F sc_is_whole rfl (fun _ _ _ _ _ _ us hl => match us, hl with | [_], _ => rfl) fun cdv A outer s0 H E hr => (gs_one (gs_ret (ge_and (ge_isB .int (ge_var 0) (n_isinstance T) (n_int T) rfl) (ge_one (ge_not (ge_isB .bool (ge_var 0) (n_isinstance T) (n_bool T) rfl))))))) (T.glo 0) (T.kpg 0)
theorem sc_is_integer : FnScope ["value"] ["value"] (defScope (top 14)) := ⟨rfl, rfl, rfl, by decide +kernel, rfl, by decide +kernel, by decide +kernel⟩
theorem cal_is_integer (T : Tx K mg base) : Cal P w K mg base 2 "is_integer" 1 m_is_integer := by
  obtain ⟨fd, F⟩ := T.df 1 d_is_integer rfl
  exact cal_mk (fn_mk (N := ["value"]) (s := s_is_integer) F sc_is_integer rfl (fun _ _ _ _ _ _ us hl => match us, hl with | [_], _ => rfl) fun cdv A outer s0 H E hr => (gs_one (gs_ret (ge_and (ge_call (cal_is_whole T) hr (ga_cons (ge_var 0) ga_nil) (lenOk_cons lenOk_nil)) (ge_one (ge_cmp os_lt (ge_callB cs_abs (ga_cons (ge_var 0) ga_nil) (n_abs T)) (ge_glD (g_SIXTY_DIGITS T)) (nomark _))))))) (T.glo 1) (T.kpg 1)
theorem sc_is_within : FnScope ["value", "least", "most"] ["value", "least", "most"] (defScope (top 15)) := ⟨rfl, rfl, rfl, by decide +kernel, rfl, by decide +kernel, by decide +kernel⟩
theorem cal_is_within (T : Tx K mg base) : Cal P w K mg base 2 "is_within" 3 m_is_within := by
  obtain ⟨fd, F⟩ := T.df 2 d_is_within rfl
  exact cal_mk (fn_mk (N := ["value", "least", "most"]) (s := s_is_within) F sc_is_within rfl (fun _ _ _ _ _ _ us hl => match us, hl with | [_, _, _], _ => rfl) fun cdv A outer s0 H E hr => (gs_one (gs_ret (ge_and (ge_call (cal_is_whole T) hr (ga_cons (ge_var 0) ga_nil) (lenOk_cons lenOk_nil)) (ge_one (ge_chain os_le os_le (ge_var 1) (ge_var 0) (ge_var 2))))))) (T.glo 2) (T.kpg 2)
theorem sc_require_within : FnScope ["value", "least", "most"] ["value", "least", "most"] (defScope (top 16)) := ⟨rfl, rfl, rfl, by decide +kernel, rfl, by decide +kernel, by decide +kernel⟩
theorem cal_require_within (T : Tx K mg base) : Cal P w K mg base 3 "require_within" 3 m_require_within := by
  obtain ⟨fd, F⟩ := T.df 3 d_require_within rfl
  exact cal_mk (fn_mk (N := ["value", "least", "most"]) (s := s_require_within) F sc_require_within rfl (fun _ _ _ _ _ _ us hl => match us, hl with | [_, _, _], _ => rfl) fun cdv A outer s0 H E hr => (gs_one (gs_if (gt_not (gt_val (ge_call (cal_is_within T) hr (ga_cons (ge_var 0) (ga_cons (ge_var 1) (ga_cons (ge_var 2) ga_nil))) (lenOk_cons (lenOk_cons (lenOk_cons lenOk_nil)))))) (gs_one gs_never) gs_nil))) (T.glo 3) (T.kpg 3)
theorem sc_common_of : FnScope ["one", "other"] ["one", "other"] (defScope (top 17)) := ⟨rfl, rfl, rfl, by decide +kernel, rfl, by decide +kernel, by decide +kernel⟩
theorem cal_common_of (T : Tx K mg base) : Cal P w K mg base 1 "common_of" 2 m_common_of := by
  obtain ⟨fd, F⟩ := T.df 4 d_common_of rfl
  exact cal_mk (fn_mk (N := ["one", "other"]) (s := s_common_of) F sc_common_of rfl (fun _ _ _ _ _ _ us hl => match us, hl with | [_, _], _ => rfl) fun cdv A outer s0 H E hr => (gs_one (gs_ret (ge_callM cs_gcd (ga_cons (ge_var 0) (ga_cons (ge_var 1) ga_nil)) (n_gcd T))))) (T.glo 4) (T.kpg 4)
theorem sc_taken_out : FnScope ["number", "divisor", "times"] ["number", "divisor"] (defScope (top 18)) := ⟨rfl, rfl, rfl, by decide +kernel, rfl, by decide +kernel, by decide +kernel⟩
theorem cal_taken_out (T : Tx K mg base) : Cal P w K mg base 1 "taken_out" 2 m_taken_out := by
  obtain ⟨fd, F⟩ := T.df 5 d_taken_out rfl
  exact cal_mk (fn_mk (N := ["number", "divisor", "times"]) (s := s_taken_out) F sc_taken_out rfl (fun _ _ _ _ _ _ us hl => match us, hl with | [_, _], _ => rfl) fun cdv A outer s0 H E hr => (gs_cons (gs_set 2 ge_int sc_taken_out.nd) (gs_cons (gs_while 64 (gt_cmp (os_eq hr.units) (ge_op os_mod (ge_var 0) (ge_var 1)) ge_int (nomark _)) (gs_cons (gs_aug 0 os_idiv (ge_var 1) sc_taken_out.nd) (gs_one (gs_aug 2 os_iadd ge_int sc_taken_out.nd))) PassesOwn.never) (gs_one (gs_ret (ge_tup (ga_cons (ge_var 2) (ga_cons (ge_var 0) ga_nil)))))))) (T.glo 5) (T.kpg 5)
theorem sc_factors_in : FnScope ["number", "divisor", "found", "left", "step", "times"] ["number"] (defScope (top 19)) := ⟨rfl, rfl, rfl, by decide +kernel, rfl, by decide +kernel, by decide +kernel⟩
theorem cal_factors_in (T : Tx K mg base) : Cal P w K mg base 2 "factors_in" 1 m_factors_in := by
  obtain ⟨fd, F⟩ := T.df 6 d_factors_in rfl
  exact cal_mk (fn_mk (N := ["number", "divisor", "found", "left", "step", "times"]) (s := s_factors_in) F sc_factors_in rfl (fun _ _ _ _ _ _ us hl => match us, hl with | [_], _ => rfl) fun cdv A outer s0 H E hr => (gs_cons (gs_par 2 3 (ge_lst ga_nil) (ge_var 0) rfl sc_factors_in.nd) (gs_cons (gs_for (gi_tup (ge_tup (ga_cons ge_int (ga_cons ge_int ga_nil)))) (gg_name 1 sc_factors_in.nd) (gs_cons (gs_asg (ge_call (cal_taken_out T) hr (ga_cons (ge_var 3) (ga_cons (ge_var 1) ga_nil)) (lenOk_cons (lenOk_cons lenOk_nil))) (gg_tup rfl (ggs_cons (gg_name 5 sc_factors_in.nd) (ggs_cons (gg_name 3 sc_factors_in.nd) ggs_nil)))) (gs_one (gs_if (gt_cmp (os_gt hr.units) (ge_var 5) ge_int (nomark _)) (gs_one (gs_append 2 (ge_tup (ga_cons (ge_var 1) (ga_cons (ge_var 5) ga_nil))))) gs_nil))) rfl PassesOwn.never) (gs_cons (gs_asg (ge_tup (ga_cons ge_int (ga_cons ge_int ga_nil))) (gg_tup rfl (ggs_cons (gg_name 1 sc_factors_in.nd) (ggs_cons (gg_name 4 sc_factors_in.nd) ggs_nil)))) (gs_cons (gs_while 64 (gt_cmp os_le (ge_op os_mul (ge_var 1) (ge_var 1)) (ge_var 3) (nomark _)) (gs_cons (gs_if (gt_cmp (os_eq hr.units) (ge_op os_mod (ge_var 3) (ge_var 1)) ge_int (nomark _)) (gs_cons (gs_asg (ge_call (cal_taken_out T) hr (ga_cons (ge_var 3) (ga_cons (ge_var 1) ga_nil)) (lenOk_cons (lenOk_cons lenOk_nil))) (gg_tup rfl (ggs_cons (gg_name 5 sc_factors_in.nd) (ggs_cons (gg_name 3 sc_factors_in.nd) ggs_nil)))) (gs_one (gs_append 2 (ge_tup (ga_cons (ge_var 1) (ga_cons (ge_var 5) ga_nil)))))) gs_nil) (gs_one (gs_par 1 4 (ge_op os_add (ge_var 1) (ge_var 4)) (ge_op os_sub ge_int (ge_var 4)) rfl sc_factors_in.nd))) PassesOwn.never) (gs_cons (gs_if (gt_cmp (os_gt hr.units) (ge_var 3) ge_int (nomark _)) (gs_one (gs_append 2 (ge_tup (ga_cons (ge_var 3) (ga_cons ge_int ga_nil))))) gs_nil) (gs_one (gs_retV 2)))))))) (T.glo 6) (T.kpg 6)
theorem sc_joined_in : FnScope ["first", "second", "p", "q", "r", "s", "i", "j", "k", "l"] ["first", "second"] (defScope (top 26)) := ⟨rfl, rfl, rfl, by decide +kernel, rfl, by decide +kernel, by decide +kernel⟩
theorem cal_joined_in (T : Tx K mg base) : Cal P w K mg base 1 "joined_in" 2 m_joined_in := by
  obtain ⟨fd, F⟩ := T.df 7 d_joined_in rfl
  exact (show Cal P w K mg base 1 "joined_in" 2 o_joined_in from cal_mk (fn_mk (N := ["first", "second", "p", "q", "r", "s", "i", "j", "k", "l"]) (s := s_joined_in) F sc_joined_in rfl (fun _ _ _ _ _ _ us hl => match us, hl with | [_, _], _ => rfl) fun cdv A outer s0 H E hr => (gs_cons (gs_asg (ge_var 0) (gg_tup rfl (ggs_cons (gg_tup rfl (ggs_cons (gg_name 2 sc_joined_in.nd) (ggs_cons (gg_name 3 sc_joined_in.nd) ggs_nil))) (ggs_cons (gg_tup rfl (ggs_cons (gg_name 4 sc_joined_in.nd) (ggs_cons (gg_name 5 sc_joined_in.nd) ggs_nil))) ggs_nil)))) (gs_cons (gs_asg (ge_var 1) (gg_tup rfl (ggs_cons (gg_tup rfl (ggs_cons (gg_name 6 sc_joined_in.nd) (ggs_cons (gg_name 7 sc_joined_in.nd) ggs_nil))) (ggs_cons (gg_tup rfl (ggs_cons (gg_name 8 sc_joined_in.nd) (ggs_cons (gg_name 9 sc_joined_in.nd) ggs_nil))) ggs_nil)))) (gs_one (gs_ret (ge_tup (ga_cons (ge_tup (ga_cons (ge_op os_add (ge_op os_mul (ge_var 6) (ge_var 2)) (ge_op os_mul (ge_var 7) (ge_var 4))) (ga_cons (ge_op os_add (ge_op os_mul (ge_var 6) (ge_var 3)) (ge_op os_mul (ge_var 7) (ge_var 5))) ga_nil))) (ga_cons (ge_tup (ga_cons (ge_op os_add (ge_op os_mul (ge_var 8) (ge_var 2)) (ge_op os_mul (ge_var 9) (ge_var 4))) (ga_cons (ge_op os_add (ge_op os_mul (ge_var 8) (ge_var 3)) (ge_op os_mul (ge_var 9) (ge_var 5))) ga_nil))) ga_nil)))))))) (T.glo 7) (T.kpg 7)).weaken weak_joined_in
theorem sc_are_integers : FnScope ["value", "size", "entry"] ["value", "size"] (defScope (top 29)) := ⟨rfl, rfl, rfl, by decide +kernel, rfl, by decide +kernel, by decide +kernel⟩
theorem cal_are_integers (T : Tx K mg base) : Cal P w K mg base 3 "are_integers" 2 m_are_integers := by
  obtain ⟨fd, F⟩ := T.df 8 d_are_integers rfl
  exact cal_mk (fn_mk (N := ["value", "size", "entry"]) (s := s_are_integers) F sc_are_integers rfl (fun _ _ _ _ _ _ us hl => match us, hl with | [_, _], _ => rfl) fun cdv A outer s0 H E hr => (gs_one (gs_ret (ge_and (ge_isB .tuple (ge_var 0) (n_isinstance T) (n_tuple T) rfl) (ge_and (ge_cmp (os_eq hr.units) (ge_callB cs_len (ga_cons (ge_var 0) ga_nil) (n_len T)) (ge_var 1) (nomark _)) (ge_one (ge_callB (cs_all rfl) (ga_cons (ge_lc (own := [("entry", 2)]) (gc_tup (ge_var 0)) (ev_name (by decide)) (fun _ _ _ _ _ => pg_name (i := 2) sc_are_integers.nd rfl (Or.inl rfl) (Or.inr rfl)) (fun _ _ _ _ _ => gts_nil) (fun _ _ _ _ _ => (ge_call (cal_is_integer T) hr (ga_cons (ge_var 2) ga_nil) (lenOk_cons lenOk_nil))) rfl sc_are_integers.nd (show BlkOk ["value", "size", "entry"] (defScope (top 29)) _ [("entry", 2)] from blkOk_by (by decide +kernel))) ga_nil) (n_all T)))))))) (T.glo 8) (T.kpg 8)
theorem sc_content_of : FnScope ["numbers", "found", "number"] ["numbers"] (defScope (top 30)) := ⟨rfl, rfl, rfl, by decide +kernel, rfl, by decide +kernel, by decide +kernel⟩
theorem cal_content_of (T : Tx K mg base) : Cal P w K mg base 2 "content_of" 1 m_content_of := by
  obtain ⟨fd, F⟩ := T.df 9 d_content_of rfl
  exact cal_mk (fn_mk (N := ["numbers", "found", "number"]) (s := s_content_of) F sc_content_of rfl (fun _ _ _ _ _ _ us hl => match us, hl with | [_], _ => rfl) fun cdv A outer s0 H E hr => (gs_cons (gs_set 1 ge_int sc_content_of.nd) (gs_cons (gs_for (gi_tup (ge_var 0)) (gg_name 2 sc_content_of.nd) (gs_one (gs_set 1 (ge_call (cal_common_of T) hr (ga_cons (ge_var 1) (ga_cons (ge_var 2) ga_nil)) (lenOk_cons (lenOk_cons lenOk_nil))) sc_content_of.nd)) rfl PassesOwn.never) (gs_one (gs_retV 1))))) (T.glo 9) (T.kpg 9)
theorem sc_double_told : FnScope ["coefficients"] ["coefficients"] (defScope (top 37)) := ⟨rfl, rfl, rfl, by decide +kernel, rfl, by decide +kernel, by decide +kernel⟩
theorem cal_double_told (T : Tx K mg base) : Cal P w K mg base 4 "double_told" 1 m_double_told := by
  obtain ⟨fd, F⟩ := T.df 10 d_double_told rfl
  exact cal_mk (fn_mk (N := ["coefficients"]) (s := s_double_told) F sc_double_told rfl (fun _ _ _ _ _ _ us hl => match us, hl with | [_], _ => rfl) fun cdv A outer s0 H E hr => (gs_cons (gs_if (gt_val (ge_isC .kd (ge_var 0) (cls_kd T) (n_isinstance T) (mg_KeptDouble T))) (gs_one (gs_ret (ge_slot .kd (ge_var 0) (cls_kd T) (slot_kd T)))) gs_nil) (gs_cons (gs_if (gt_not (gt_val (ge_call (cal_are_integers T) hr (ga_cons (ge_var 0) (ga_cons (ge_glD (g_SIZE_doubles T)) ga_nil)) (lenOk_cons (lenOk_cons lenOk_nil))))) (gs_one gs_never) gs_nil) (gs_one (gs_retV 0))))) (T.glo 10) (T.kpg 10)
theorem sc_form_told : FnScope ["coefficients"] ["coefficients"] (defScope (top 59)) := ⟨rfl, rfl, rfl, by decide +kernel, rfl, by decide +kernel, by decide +kernel⟩
theorem cal_form_told (T : Tx K mg base) : Cal P w K mg base 4 "form_told" 1 m_form_told := by
  obtain ⟨fd, F⟩ := T.df 11 d_form_told rfl
  exact cal_mk (fn_mk (N := ["coefficients"]) (s := s_form_told) F sc_form_told rfl (fun _ _ _ _ _ _ us hl => match us, hl with | [_], _ => rfl) fun cdv A outer s0 H E hr => (gs_cons (gs_if (gt_val (ge_isC .kf (ge_var 0) (cls_kf T) (n_isinstance T) (mg_KeptForm T))) (gs_one (gs_ret (ge_slot .kf (ge_var 0) (cls_kf T) (slot_kf T)))) gs_nil) (gs_cons (gs_if (gt_not (gt_val (ge_call (cal_are_integers T) hr (ga_cons (ge_var 0) (ga_cons (ge_glD (g_SIZE_forms T)) ga_nil)) (lenOk_cons (lenOk_cons lenOk_nil))))) (gs_one gs_never) gs_nil) (gs_one (gs_retV 0))))) (T.glo 11) (T.kpg 11)
theorem sc_KeptDouble__init_ : FnScope ["self", "numbers"] ["self", "numbers"] (defScope (inClass (top 35) 1)) := ⟨rfl, rfl, rfl, by decide +kernel, rfl, by decide +kernel, by decide +kernel⟩
theorem mak_KeptDouble (T : Tx K mg base) : MakF P w K mg base 1 .kd m_KeptDouble_init_ := by
  obtain ⟨fd, F⟩ := T.df 12 d_KeptDouble__init_ rfl
  exact ⟨_, T.maker 91, fn_init F sc_KeptDouble__init_ (fun _ _ _ _ _ _ us hl => match us, hl with | [_, _], _ => rfl) (cls_kd T) (slot_kd T) rfl fun cdv A outer s0 H E hr => ⟨(ge_callT cs_tup (ga_cons (ge_var 1) ga_nil) (n_tuple T)), rfl, Or.inl rfl⟩⟩
theorem sc_Double__init_ : FnScope ["self", "coefficients"] ["self", "coefficients"] (defScope (inClass (top 36) 1)) := ⟨rfl, rfl, rfl, by decide +kernel, rfl, by decide +kernel, by decide +kernel⟩
theorem mak_Double (T : Tx K mg base) : MakF P w K mg base 5 .db m_Double_init_ := by
  obtain ⟨fd, F⟩ := T.df 13 d_Double__init_ rfl
  exact ⟨_, T.maker 92, fn_init F sc_Double__init_ (fun _ _ _ _ _ _ us hl => match us, hl with | [_, _], _ => rfl) (cls_db T) (slot_db T) rfl fun cdv A outer s0 H E hr => ⟨(ge_call (cal_double_told T) hr (ga_cons (ge_var 1) ga_nil) (lenOk_cons lenOk_nil)), rfl, Or.inl rfl⟩⟩
theorem sc_KeptForm__init_ : FnScope ["self", "numbers"] ["self", "numbers"] (defScope (inClass (top 57) 1)) := ⟨rfl, rfl, rfl, by decide +kernel, rfl, by decide +kernel, by decide +kernel⟩
theorem mak_KeptForm (T : Tx K mg base) : MakF P w K mg base 1 .kf m_KeptForm_init_ := by
  obtain ⟨fd, F⟩ := T.df 14 d_KeptForm__init_ rfl
  exact ⟨_, T.maker 89, fn_init F sc_KeptForm__init_ (fun _ _ _ _ _ _ us hl => match us, hl with | [_, _], _ => rfl) (cls_kf T) (slot_kf T) rfl fun cdv A outer s0 H E hr => ⟨(ge_callT cs_tup (ga_cons (ge_var 1) ga_nil) (n_tuple T)), rfl, Or.inl rfl⟩⟩
theorem sc_Form__init_ : FnScope ["self", "coefficients"] ["self", "coefficients"] (defScope (inClass (top 58) 1)) := ⟨rfl, rfl, rfl, by decide +kernel, rfl, by decide +kernel, by decide +kernel⟩
theorem mak_Form (T : Tx K mg base) : MakF P w K mg base 5 .fm m_Form_init_ := by
  obtain ⟨fd, F⟩ := T.df 15 d_Form__init_ rfl
  exact ⟨_, T.maker 90, fn_init F sc_Form__init_ (fun _ _ _ _ _ _ us hl => match us, hl with | [_, _], _ => rfl) (cls_fm T) (slot_fm T) rfl fun cdv A outer s0 H E hr => ⟨(ge_call (cal_form_told T) hr (ga_cons (ge_var 1) ga_nil) (lenOk_cons lenOk_nil)), rfl, Or.inl rfl⟩⟩
theorem sc_made_double : FnScope ["numbers"] ["numbers"] (defScope (top 38)) := ⟨rfl, rfl, rfl, by decide +kernel, rfl, by decide +kernel, by decide +kernel⟩
theorem cal_made_double (T : Tx K mg base) : Cal P w K mg base 7 "made_double" 1 m_made_double := by
  obtain ⟨fd, F⟩ := T.df 16 d_made_double rfl
  exact cal_mk (fn_mk (N := ["numbers"]) (s := s_made_double) F sc_made_double rfl (fun _ _ _ _ _ _ us hl => match us, hl with | [_], _ => rfl) fun cdv A outer s0 H E hr => (gs_one (gs_ret (ge_make .db (mak_Double T) (mg_Double T) hr (ga_cons (ge_make .kd (mak_KeptDouble T) (mg_KeptDouble T) hr (ga_cons (ge_var 0) ga_nil) (lenOk_cons lenOk_nil)) ga_nil) (lenOk_cons lenOk_nil))))) (T.glo 12) (T.kpg 12)
theorem sc_made_form : FnScope ["numbers"] ["numbers"] (defScope (top 60)) := ⟨rfl, rfl, rfl, by decide +kernel, rfl, by decide +kernel, by decide +kernel⟩
theorem cal_made_form (T : Tx K mg base) : Cal P w K mg base 7 "made_form" 1 m_made_form := by
  obtain ⟨fd, F⟩ := T.df 17 d_made_form rfl
  exact cal_mk (fn_mk (N := ["numbers"]) (s := s_made_form) F sc_made_form rfl (fun _ _ _ _ _ _ us hl => match us, hl with | [_], _ => rfl) fun cdv A outer s0 H E hr => (gs_one (gs_ret (ge_make .fm (mak_Form T) (mg_Form T) hr (ga_cons (ge_make .kf (mak_KeptForm T) (mg_KeptForm T) hr (ga_cons (ge_var 0) ga_nil) (lenOk_cons lenOk_nil)) ga_nil) (lenOk_cons lenOk_nil))))) (T.glo 13) (T.kpg 13)
theorem sc_Double_content : FnScope ["self"] ["self"] (defScope (inClass (top 36) 4)) := ⟨rfl, rfl, rfl, by decide +kernel, rfl, by decide +kernel, by decide +kernel⟩
theorem prop_Double_content (T : Tx K mg base) : PropF P w K mg base 3 .db "content" m_Double_content := by
  obtain ⟨fd, F⟩ := T.df 18 d_Double_content rfl
  exact T.prop 93 (fn_mk (N := ["self"]) (s := s_Double_content) F sc_Double_content rfl (fun _ _ _ _ _ _ us hl => match us, hl with | [_], _ => rfl) fun cdv A outer s0 H E hr => (gs_one (gs_ret (ge_call (cal_content_of T) hr (ga_cons (ge_slot .db (ge_var 0) (cls_db T) (slot_db T)) ga_nil) (lenOk_cons lenOk_nil)))))
theorem sc_lowest_place : FnScope ["x", "y", "share"] ["x", "y"] (defScope (top 41)) := ⟨rfl, rfl, rfl, by decide +kernel, rfl, by decide +kernel, by decide +kernel⟩
theorem cal_lowest_place (T : Tx K mg base) : Cal P w K mg base 2 "lowest_place" 2 m_lowest_place := by
  obtain ⟨fd, F⟩ := T.df 19 d_lowest_place rfl
  exact cal_mk (fn_mk (N := ["x", "y", "share"]) (s := s_lowest_place) F sc_lowest_place rfl (fun _ _ _ _ _ _ us hl => match us, hl with | [_, _], _ => rfl) fun cdv A outer s0 H E hr => (gs_cons (gs_set 2 (ge_call (cal_common_of T) hr (ga_cons (ge_var 0) (ga_cons (ge_var 1) ga_nil)) (lenOk_cons (lenOk_cons lenOk_nil))) sc_lowest_place.nd) (gs_cons (gs_if (gt_w (gw_or (gt_cmp os_lt (ge_var 1) ge_int (nomark _)) (gw_or1 (gt_w (gw_and (gt_cmp (os_eq hr.units) (ge_var 1) ge_int (nomark _)) (gw_and1 (gt_cmp os_lt (ge_var 0) ge_int (nomark _)))))))) (gs_one (gs_set 2 (ge_neg (ge_var 2)) sc_lowest_place.nd)) gs_nil) (gs_one (gs_ret (ge_tup (ga_cons (ge_op os_div (ge_var 0) (ge_var 2)) (ga_cons (ge_op os_div (ge_var 1) (ge_var 2)) ga_nil)))))))) (T.glo 14) (T.kpg 14)
theorem sc_places_of_double : FnScope ["numbers", "part", "root", "a", "b", "c"] ["numbers"] (defScope (top 42)) := ⟨rfl, rfl, rfl, by decide +kernel, rfl, by decide +kernel, by decide +kernel⟩
theorem cal_places_of_double (T : Tx K mg base) : Cal P w K mg base 3 "places_of_double" 1 m_places_of_double := by
  obtain ⟨fd, F⟩ := T.df 20 d_places_of_double rfl
  exact cal_mk (fn_mk (N := ["numbers", "part", "root", "a", "b", "c"]) (s := s_places_of_double) F sc_places_of_double rfl (fun _ _ _ _ _ _ us hl => match us, hl with | [_], _ => rfl) fun cdv A outer s0 H E hr => (gs_cons (gs_asg (ge_var 0) (gg_tup rfl (ggs_cons (gg_name 3 sc_places_of_double.nd) (ggs_cons (gg_name 4 sc_places_of_double.nd) (ggs_cons (gg_name 5 sc_places_of_double.nd) ggs_nil))))) (gs_cons (gs_if (gt_cmp (os_eq hr.units) (ge_var 3) ge_int (nomark _)) (gs_one (gs_ret (ge_if (gt_cmp (os_ne hr.units) (ge_var 4) ge_int (nomark _)) (ge_lst (ga_cons (ge_glD (g_END_lines T)) (ga_cons (ge_call (cal_lowest_place T) hr (ga_cons (ge_neg (ge_var 5)) (ga_cons (ge_var 4) ga_nil)) (lenOk_cons (lenOk_cons lenOk_nil))) ga_nil))) (ge_lst (ga_cons (ge_glD (g_END_lines T)) ga_nil))))) gs_nil) (gs_cons (gs_set 1 (ge_op os_sub (ge_op os_mul (ge_var 4) (ge_var 4)) (ge_op os_mul (ge_op os_mul ge_int (ge_var 3)) (ge_var 5))) sc_places_of_double.nd) (gs_cons (gs_if (gt_w (gw_or (gt_cmp os_lt (ge_var 1) ge_int (nomark _)) (gw_or1 (gt_cmp (os_ne hr.units) (ge_op os_mul (ge_callM cs_sqrt (ga_cons (ge_var 1) ga_nil) (n_isqrt T)) (ge_callM cs_sqrt (ga_cons (ge_var 1) ga_nil) (n_isqrt T))) (ge_var 1) (nomark _))))) (gs_one (gs_ret (ge_lst ga_nil))) gs_nil) (gs_cons (gs_set 2 (ge_callM cs_sqrt (ga_cons (ge_var 1) ga_nil) (n_isqrt T)) sc_places_of_double.nd) (gs_one (gs_ret (ge_lst (ga_cons (ge_call (cal_lowest_place T) hr (ga_cons (ge_op os_sub (ge_neg (ge_var 4)) (ge_var 2)) (ga_cons (ge_op os_mul ge_int (ge_var 3)) ga_nil)) (lenOk_cons (lenOk_cons lenOk_nil))) (ga_cons (ge_call (cal_lowest_place T) hr (ga_cons (ge_op os_add (ge_neg (ge_var 4)) (ge_var 2)) (ga_cons (ge_op os_mul ge_int (ge_var 3)) ga_nil)) (lenOk_cons (lenOk_cons lenOk_nil))) ga_nil))))))))))) (T.glo 15) (T.kpg 15)
theorem sc_monic_at : FnScope ["numbers", "x", "u", "v", "w"] ["numbers", "x"] (defScope (top 43)) := ⟨rfl, rfl, rfl, by decide +kernel, rfl, by decide +kernel, by decide +kernel⟩
theorem cal_monic_at (T : Tx K mg base) : Cal P w K mg base 1 "monic_at" 2 m_monic_at := by
  obtain ⟨fd, F⟩ := T.df 21 d_monic_at rfl
  exact (show Cal P w K mg base 1 "monic_at" 2 o_monic_at from cal_mk (fn_mk (N := ["numbers", "x", "u", "v", "w"]) (s := s_monic_at) F sc_monic_at rfl (fun _ _ _ _ _ _ us hl => match us, hl with | [_, _], _ => rfl) fun cdv A outer s0 H E hr => (gs_cons (gs_asg (ge_var 0) (gg_tup rfl (ggs_cons (gg_name 2 sc_monic_at.nd) (ggs_cons (gg_name 3 sc_monic_at.nd) (ggs_cons (gg_name 4 sc_monic_at.nd) ggs_nil))))) (gs_one (gs_ret (ge_op os_add (ge_op os_mul (ge_op os_add (ge_op os_mul (ge_op os_add (ge_var 1) (ge_var 2)) (ge_var 1)) (ge_var 3)) (ge_var 1)) (ge_var 4)))))) (T.glo 16) (T.kpg 16)).weaken weak_monic_at
theorem sc_bisected : FnScope ["numbers", "low", "high", "sense", "middle"] ["numbers", "low", "high", "sense"] (defScope (top 44)) := ⟨rfl, rfl, rfl, by decide +kernel, rfl, by decide +kernel, by decide +kernel⟩
theorem cal_bisected (T : Tx K mg base) : Cal P w K mg base 2 "bisected" 4 m_bisected := by
  obtain ⟨fd, F⟩ := T.df 22 d_bisected rfl
  exact cal_mk (fn_mk (N := ["numbers", "low", "high", "sense", "middle"]) (s := s_bisected) F sc_bisected rfl (fun _ _ _ _ _ _ us hl => match us, hl with | [_, _, _, _], _ => rfl) fun cdv A outer s0 H E hr => (gs_cons (gs_while 200 (gt_cmp os_lt (ge_var 1) (ge_var 2) (nomark _)) (gs_cons (gs_set 4 (ge_op os_div (ge_op os_add (ge_var 1) (ge_var 2)) ge_int) sc_bisected.nd) (gs_one (gs_if (gt_cmp os_ge (ge_op os_mul (ge_var 3) (ge_call (cal_monic_at T) hr (ga_cons (ge_var 0) (ga_cons (ge_var 4) ga_nil)) (lenOk_cons (lenOk_cons lenOk_nil)))) ge_int (nomark _)) (gs_one (gs_set 2 (ge_var 4) sc_bisected.nd)) (gs_one (gs_set 1 (ge_op os_add (ge_var 4) ge_int) sc_bisected.nd))))) PassesOwn.never) (gs_one (gs_ret (ge_if (gt_w (gw_and (gt_cmp (os_eq hr.units) (ge_var 1) (ge_var 2) (nomark _)) (gw_and1 (gt_cmp (os_eq hr.units) (ge_call (cal_monic_at T) hr (ga_cons (ge_var 0) (ga_cons (ge_var 1) ga_nil)) (lenOk_cons (lenOk_cons lenOk_nil))) ge_int (nomark _))))) (ge_lst (ga_cons (ge_var 1) ga_nil)) (ge_lst ga_nil)))))) (T.glo 17) (T.kpg 17)
theorem sc_monic_roots : FnScope ["numbers", "root", "found", "u", "v", "w", "most", "part", "low", "high"] ["numbers"] (defScope (top 45)) := ⟨rfl, rfl, rfl, by decide +kernel, rfl, by decide +kernel, by decide +kernel⟩
theorem cal_monic_roots (T : Tx K mg base) : Cal P w K mg base 3 "monic_roots" 1 m_monic_roots := by
  obtain ⟨fd, F⟩ := T.df 23 d_monic_roots rfl
  exact cal_mk (fn_mk (N := ["numbers", "root", "found", "u", "v", "w", "most", "part", "low", "high"]) (s := s_monic_roots) F sc_monic_roots rfl (fun _ _ _ _ _ _ us hl => match us, hl with | [_], _ => rfl) fun cdv A outer s0 H E hr => (gs_cons (gs_asg (ge_var 0) (gg_tup rfl (ggs_cons (gg_name 3 sc_monic_roots.nd) (ggs_cons (gg_name 4 sc_monic_roots.nd) (ggs_cons (gg_name 5 sc_monic_roots.nd) ggs_nil))))) (gs_cons (gs_par 6 7 (ge_op os_add ge_int (ge_callB (cs_max3 rfl) (ga_cons (ge_callB cs_abs (ga_cons (ge_var 3) ga_nil) (n_abs T)) (ga_cons (ge_callB cs_abs (ga_cons (ge_var 4) ga_nil) (n_abs T)) (ga_cons (ge_callB cs_abs (ga_cons (ge_var 5) ga_nil) (n_abs T)) ga_nil))) (n_max T))) (ge_op os_sub (ge_op os_mul (ge_var 3) (ge_var 3)) (ge_op os_mul ge_int (ge_var 4))) rfl sc_monic_roots.nd) (gs_cons (gs_if (gt_cmp os_le (ge_var 7) ge_int (nomark _)) (gs_one (gs_ret (ge_call (cal_bisected T) hr (ga_cons (ge_var 0) (ga_cons (ge_neg (ge_var 6)) (ga_cons (ge_var 6) (ga_cons ge_int ga_nil)))) (lenOk_cons (lenOk_cons (lenOk_cons (lenOk_cons lenOk_nil))))))) gs_nil) (gs_cons (gs_set 1 (ge_callM cs_sqrt (ga_cons (ge_var 7) ga_nil) (n_isqrt T)) sc_monic_roots.nd) (gs_cons (gs_par 8 9 (ge_op os_div (ge_op os_sub (ge_op os_sub (ge_neg (ge_var 3)) (ge_var 1)) ge_int) ge_int) (ge_op os_div (ge_op os_add (ge_neg (ge_var 3)) (ge_var 1)) ge_int) rfl sc_monic_roots.nd) (gs_cons (gs_set 2 (ge_call (cal_bisected T) hr (ga_cons (ge_var 0) (ga_cons (ge_neg (ge_var 6)) (ga_cons (ge_var 8) (ga_cons ge_int ga_nil)))) (lenOk_cons (lenOk_cons (lenOk_cons (lenOk_cons lenOk_nil))))) sc_monic_roots.nd) (gs_cons (gs_extend 2 (ge_call (cal_bisected T) hr (ga_cons (ge_var 0) (ga_cons (ge_op os_add (ge_var 8) ge_int) (ga_cons (ge_var 9) (ga_cons (ge_neg ge_int) ga_nil)))) (lenOk_cons (lenOk_cons (lenOk_cons (lenOk_cons lenOk_nil)))))) (gs_one (gs_ret (ge_lst (ga_star (ge_var 2) (ga_star (ge_call (cal_bisected T) hr (ga_cons (ge_var 0) (ga_cons (ge_op os_add (ge_var 9) ge_int) (ga_cons (ge_var 6) (ga_cons ge_int ga_nil)))) (lenOk_cons (lenOk_cons (lenOk_cons (lenOk_cons lenOk_nil))))) ga_nil))))))))))))) (T.glo 18) (T.kpg 18)
theorem sc_places_of_cubic : FnScope ["numbers", "a", "b", "c", "d", "found", "x", "place"] ["numbers"] (defScope (top 46)) := ⟨rfl, rfl, rfl, by decide +kernel, rfl, by decide +kernel, by decide +kernel⟩
theorem cal_places_of_cubic (T : Tx K mg base) : Cal P w K mg base 4 "places_of_cubic" 1 m_places_of_cubic := by
  obtain ⟨fd, F⟩ := T.df 24 d_places_of_cubic rfl
  exact (show Cal P w K mg base 4 "places_of_cubic" 1 o_places_of_cubic from cal_mk (fn_mk (N := ["numbers", "a", "b", "c", "d", "found", "x", "place"]) (s := s_places_of_cubic) F sc_places_of_cubic rfl (fun _ _ _ _ _ _ us hl => match us, hl with | [_], _ => rfl) fun cdv A outer s0 H E hr => (gs_cons (gs_asg (ge_var 0) (gg_tup rfl (ggs_cons (gg_name 1 sc_places_of_cubic.nd) (ggs_cons (gg_name 2 sc_places_of_cubic.nd) (ggs_cons (gg_name 3 sc_places_of_cubic.nd) (ggs_cons (gg_name 4 sc_places_of_cubic.nd) ggs_nil)))))) (gs_cons (gs_if (gt_cmp (os_ne hr.units) (ge_var 1) ge_int (nomark _)) (gs_one (gs_setLc 5 (own := [("x", 6)]) (gc_list (ge_call (cal_monic_roots T) hr (ga_cons (ge_tup (ga_cons (ge_var 2) (ga_cons (ge_op os_mul (ge_var 1) (ge_var 3)) (ga_cons (ge_op os_mul (ge_op os_mul (ge_var 1) (ge_var 1)) (ge_var 4)) ga_nil)))) ga_nil) (lenOk_cons lenOk_nil))) (ev_name (by decide)) (fun _ _ _ _ _ => pg_name (i := 6) sc_places_of_cubic.nd rfl (Or.inl rfl) (Or.inr rfl)) (fun _ _ _ _ _ => gts_nil) (fun _ _ _ _ _ => (ge_call (cal_lowest_place T) hr (ga_cons (ge_var 6) (ga_cons (ge_var 1) ga_nil)) (lenOk_cons (lenOk_cons lenOk_nil)))) rfl sc_places_of_cubic.nd (show BlkOk ["numbers", "a", "b", "c", "d", "found", "x", "place"] (defScope (top 46)) _ [("x", 6)] from blkOk_by (by decide +kernel)) rfl)) (gs_one (gs_set 5 (ge_lst (ga_cons (ge_glD (g_END_lines T)) (ga_star (ge_if (gt_cmp (os_ne hr.units) (ge_tup (ga_cons (ge_var 2) (ga_cons (ge_var 3) (ga_cons (ge_var 4) ga_nil)))) (ge_tup (ga_cons ge_int (ga_cons ge_int (ga_cons ge_int ga_nil)))) (nomark _)) (ge_call (cal_places_of_double T) hr (ga_cons (ge_tup (ga_cons (ge_var 2) (ga_cons (ge_var 3) (ga_cons (ge_var 4) ga_nil)))) ga_nil) (lenOk_cons lenOk_nil)) (ge_lst ga_nil)) ga_nil))) sc_places_of_cubic.nd))) (gs_one (gs_ret (ge_callT cs_tup (ga_cons (ge_callB (cs_sorted rfl hr.units) (ga_cons (ge_dc (own := [("place", 7)]) (gc_list (ge_var 5)) (ev_name (by decide)) (fun _ _ _ _ _ => pg_name (i := 7) sc_places_of_cubic.nd rfl (Or.inl rfl) (Or.inr rfl)) (fun _ _ _ _ _ => gts_nil) (fun _ _ _ _ _ => (ge_var 7)) (fun _ _ _ _ _ => pe_bl) rfl hr.units sc_places_of_cubic.nd (show BlkOk ["numbers", "a", "b", "c", "d", "found", "x", "place"] (defScope (top 46)) _ [("place", 7)] from blkOk_by (by decide +kernel))) ga_nil) (n_sorted T)) ga_nil) (n_tuple T))))))) (T.glo 19) (T.kpg 19)).weaken (strict_ok _)
theorem sc_form_at : FnScope ["numbers", "x", "y", "a", "b", "c", "d"] ["numbers", "x", "y"] (defScope (top 53)) := ⟨rfl, rfl, rfl, by decide +kernel, rfl, by decide +kernel, by decide +kernel⟩
theorem cal_form_at (T : Tx K mg base) : Cal P w K mg base 1 "form_at" 3 m_form_at := by
  obtain ⟨fd, F⟩ := T.df 25 d_form_at rfl
  exact (show Cal P w K mg base 1 "form_at" 3 o_form_at from cal_mk (fn_mk (N := ["numbers", "x", "y", "a", "b", "c", "d"]) (s := s_form_at) F sc_form_at rfl (fun _ _ _ _ _ _ us hl => match us, hl with | [_, _, _], _ => rfl) fun cdv A outer s0 H E hr => (gs_cons (gs_asg (ge_var 0) (gg_tup rfl (ggs_cons (gg_name 3 sc_form_at.nd) (ggs_cons (gg_name 4 sc_form_at.nd) (ggs_cons (gg_name 5 sc_form_at.nd) (ggs_cons (gg_name 6 sc_form_at.nd) ggs_nil)))))) (gs_one (gs_ret (ge_op os_add (ge_op os_mul (ge_op os_add (ge_op os_mul (ge_op os_add (ge_op os_mul (ge_var 3) (ge_var 1)) (ge_op os_mul (ge_var 4) (ge_var 2))) (ge_var 1)) (ge_op os_mul (ge_op os_mul (ge_var 5) (ge_var 2)) (ge_var 2))) (ge_var 1)) (ge_op os_mul (ge_op os_mul (ge_op os_mul (ge_var 6) (ge_var 2)) (ge_var 2)) (ge_var 2))))))) (T.glo 20) (T.kpg 20)).weaken weak_form_at
theorem sc_form_led : FnScope ["numbers", "change", "sense", "second", "third", "a", "b", "c", "d", "p", "q", "r", "s"] ["numbers", "change"] (defScope (top 54)) := ⟨rfl, rfl, rfl, by decide +kernel, rfl, by decide +kernel, by decide +kernel⟩
theorem cal_form_led (T : Tx K mg base) : Cal P w K mg base 2 "form_led" 2 m_form_led := by
  obtain ⟨fd, F⟩ := T.df 26 d_form_led rfl
  exact (show Cal P w K mg base 2 "form_led" 2 o_form_led from cal_mk (fn_mk (N := ["numbers", "change", "sense", "second", "third", "a", "b", "c", "d", "p", "q", "r", "s"]) (s := s_form_led) F sc_form_led rfl (fun _ _ _ _ _ _ us hl => match us, hl with | [_, _], _ => rfl) fun cdv A outer s0 H E hr => (gs_cons (gs_asg (ge_var 0) (gg_tup rfl (ggs_cons (gg_name 5 sc_form_led.nd) (ggs_cons (gg_name 6 sc_form_led.nd) (ggs_cons (gg_name 7 sc_form_led.nd) (ggs_cons (gg_name 8 sc_form_led.nd) ggs_nil)))))) (gs_cons (gs_asg (ge_var 1) (gg_tup rfl (ggs_cons (gg_tup rfl (ggs_cons (gg_name 9 sc_form_led.nd) (ggs_cons (gg_name 10 sc_form_led.nd) ggs_nil))) (ggs_cons (gg_tup rfl (ggs_cons (gg_name 11 sc_form_led.nd) (ggs_cons (gg_name 12 sc_form_led.nd) ggs_nil))) ggs_nil)))) (gs_cons (gs_set 2 (ge_op os_sub (ge_op os_mul (ge_var 9) (ge_var 12)) (ge_op os_mul (ge_var 10) (ge_var 11))) sc_form_led.nd) (gs_cons (gs_set 3 (ge_op os_add (ge_op os_add (ge_op os_add (ge_op os_mul (ge_op os_mul (ge_op os_mul (ge_op os_mul ge_int (ge_var 5)) (ge_var 9)) (ge_var 9)) (ge_var 11)) (ge_op os_mul (ge_var 6) (ge_op os_add (ge_op os_mul (ge_op os_mul (ge_var 9) (ge_var 9)) (ge_var 12)) (ge_op os_mul (ge_op os_mul (ge_op os_mul ge_int (ge_var 9)) (ge_var 10)) (ge_var 11))))) (ge_op os_mul (ge_var 7) (ge_op os_add (ge_op os_mul (ge_op os_mul (ge_op os_mul ge_int (ge_var 9)) (ge_var 10)) (ge_var 12)) (ge_op os_mul (ge_op os_mul (ge_var 10) (ge_var 10)) (ge_var 11))))) (ge_op os_mul (ge_op os_mul (ge_op os_mul (ge_op os_mul ge_int (ge_var 8)) (ge_var 10)) (ge_var 10)) (ge_var 12))) sc_form_led.nd) (gs_cons (gs_set 4 (ge_op os_add (ge_op os_add (ge_op os_add (ge_op os_mul (ge_op os_mul (ge_op os_mul (ge_op os_mul ge_int (ge_var 5)) (ge_var 9)) (ge_var 11)) (ge_var 11)) (ge_op os_mul (ge_var 6) (ge_op os_add (ge_op os_mul (ge_op os_mul (ge_var 11) (ge_var 11)) (ge_var 10)) (ge_op os_mul (ge_op os_mul (ge_op os_mul ge_int (ge_var 9)) (ge_var 11)) (ge_var 12))))) (ge_op os_mul (ge_var 7) (ge_op os_add (ge_op os_mul (ge_op os_mul (ge_op os_mul ge_int (ge_var 10)) (ge_var 11)) (ge_var 12)) (ge_op os_mul (ge_op os_mul (ge_var 9) (ge_var 12)) (ge_var 12))))) (ge_op os_mul (ge_op os_mul (ge_op os_mul (ge_op os_mul ge_int (ge_var 8)) (ge_var 10)) (ge_var 12)) (ge_var 12))) sc_form_led.nd) (gs_one (gs_ret (ge_tup (ga_cons (ge_op os_mul (ge_var 2) (ge_call (cal_form_at T) hr (ga_cons (ge_var 0) (ga_cons (ge_var 9) (ga_cons (ge_var 10) ga_nil))) (lenOk_cons (lenOk_cons (lenOk_cons lenOk_nil))))) (ga_cons (ge_op os_mul (ge_var 2) (ge_var 3)) (ga_cons (ge_op os_mul (ge_var 2) (ge_var 4)) (ga_cons (ge_op os_mul (ge_var 2) (ge_call (cal_form_at T) hr (ga_cons (ge_var 0) (ga_cons (ge_var 11) (ga_cons (ge_var 12) ga_nil))) (lenOk_cons (lenOk_cons (lenOk_cons lenOk_nil))))) ga_nil))))))))))))) (T.glo 21) (T.kpg 21)).weaken weak_form_led
theorem sc_discriminant_of : FnScope ["numbers", "plus", "a", "b", "c", "d"] ["numbers"] (defScope (top 55)) := ⟨rfl, rfl, rfl, by decide +kernel, rfl, by decide +kernel, by decide +kernel⟩
theorem cal_discriminant_of (T : Tx K mg base) : Cal P w K mg base 1 "discriminant_of" 1 m_discriminant_of := by
  obtain ⟨fd, F⟩ := T.df 27 d_discriminant_of rfl
  exact (show Cal P w K mg base 1 "discriminant_of" 1 o_discriminant_of from cal_mk (fn_mk (N := ["numbers", "plus", "a", "b", "c", "d"]) (s := s_discriminant_of) F sc_discriminant_of rfl (fun _ _ _ _ _ _ us hl => match us, hl with | [_], _ => rfl) fun cdv A outer s0 H E hr => (gs_cons (gs_asg (ge_var 0) (gg_tup rfl (ggs_cons (gg_name 2 sc_discriminant_of.nd) (ggs_cons (gg_name 3 sc_discriminant_of.nd) (ggs_cons (gg_name 4 sc_discriminant_of.nd) (ggs_cons (gg_name 5 sc_discriminant_of.nd) ggs_nil)))))) (gs_cons (gs_set 1 (ge_op os_add (ge_op os_mul (ge_op os_mul (ge_op os_mul (ge_var 3) (ge_var 3)) (ge_var 4)) (ge_var 4)) (ge_op os_mul (ge_op os_mul (ge_op os_mul (ge_op os_mul ge_int (ge_var 2)) (ge_var 3)) (ge_var 4)) (ge_var 5))) sc_discriminant_of.nd) (gs_one (gs_ret (ge_op os_sub (ge_op os_sub (ge_op os_sub (ge_var 1) (ge_op os_mul (ge_op os_mul (ge_op os_mul (ge_op os_mul ge_int (ge_var 2)) (ge_var 4)) (ge_var 4)) (ge_var 4))) (ge_op os_mul (ge_op os_mul (ge_op os_mul (ge_op os_mul ge_int (ge_var 3)) (ge_var 3)) (ge_var 3)) (ge_var 5))) (ge_op os_mul (ge_op os_mul (ge_op os_mul (ge_op os_mul ge_int (ge_var 2)) (ge_var 2)) (ge_var 5)) (ge_var 5)))))))) (T.glo 22) (T.kpg 22)).weaken weak_discriminant_of
theorem sc_hessian_of : FnScope ["numbers", "a", "b", "c", "d"] ["numbers"] (defScope (top 56)) := ⟨rfl, rfl, rfl, by decide +kernel, rfl, by decide +kernel, by decide +kernel⟩
theorem cal_hessian_of (T : Tx K mg base) : Cal P w K mg base 1 "hessian_of" 1 m_hessian_of := by
  obtain ⟨fd, F⟩ := T.df 28 d_hessian_of rfl
  exact (show Cal P w K mg base 1 "hessian_of" 1 o_hessian_of from cal_mk (fn_mk (N := ["numbers", "a", "b", "c", "d"]) (s := s_hessian_of) F sc_hessian_of rfl (fun _ _ _ _ _ _ us hl => match us, hl with | [_], _ => rfl) fun cdv A outer s0 H E hr => (gs_cons (gs_asg (ge_var 0) (gg_tup rfl (ggs_cons (gg_name 1 sc_hessian_of.nd) (ggs_cons (gg_name 2 sc_hessian_of.nd) (ggs_cons (gg_name 3 sc_hessian_of.nd) (ggs_cons (gg_name 4 sc_hessian_of.nd) ggs_nil)))))) (gs_one (gs_ret (ge_tup (ga_cons (ge_op os_sub (ge_op os_mul (ge_var 2) (ge_var 2)) (ge_op os_mul (ge_op os_mul ge_int (ge_var 1)) (ge_var 3))) (ga_cons (ge_op os_sub (ge_op os_mul (ge_var 2) (ge_var 3)) (ge_op os_mul (ge_op os_mul ge_int (ge_var 1)) (ge_var 4))) (ga_cons (ge_op os_sub (ge_op os_mul (ge_var 3) (ge_var 3)) (ge_op os_mul (ge_op os_mul ge_int (ge_var 2)) (ge_var 4))) ga_nil)))))))) (T.glo 23) (T.kpg 23)).weaken weak_hessian_of
theorem sc_Form_coefficients : FnScope ["self"] ["self"] (defScope (inClass (top 58) 3)) := ⟨rfl, rfl, rfl, by decide +kernel, rfl, by decide +kernel, by decide +kernel⟩
theorem prop_Form_coefficients (T : Tx K mg base) : PropF P w K mg base 1 .fm "coefficients" m_Form_coefficients := by
  obtain ⟨fd, F⟩ := T.df 29 d_Form_coefficients rfl
  exact T.prop 94 (fn_mk (N := ["self"]) (s := s_Form_coefficients) F sc_Form_coefficients rfl (fun _ _ _ _ _ _ us hl => match us, hl with | [_], _ => rfl) fun cdv A outer s0 H E hr => (gs_one (gs_ret (ge_slot .fm (ge_var 0) (cls_fm T) (slot_fm T)))))
theorem sc_Form_discriminant : FnScope ["self"] ["self"] (defScope (inClass (top 58) 4)) := ⟨rfl, rfl, rfl, by decide +kernel, rfl, by decide +kernel, by decide +kernel⟩
theorem prop_Form_discriminant (T : Tx K mg base) : PropF P w K mg base 2 .fm "discriminant" m_Form_discriminant := by
  obtain ⟨fd, F⟩ := T.df 30 d_Form_discriminant rfl
  exact T.prop 95 (fn_mk (N := ["self"]) (s := s_Form_discriminant) F sc_Form_discriminant rfl (fun _ _ _ _ _ _ us hl => match us, hl with | [_], _ => rfl) fun cdv A outer s0 H E hr => (gs_one (gs_ret (ge_call (cal_discriminant_of T) hr (ga_cons (ge_slot .fm (ge_var 0) (cls_fm T) (slot_fm T)) ga_nil) (lenOk_cons lenOk_nil)))))
theorem sc_Form_hessian : FnScope ["self"] ["self"] (defScope (inClass (top 58) 6)) := ⟨rfl, rfl, rfl, by decide +kernel, rfl, by decide +kernel, by decide +kernel⟩
theorem prop_Form_hessian (T : Tx K mg base) : PropF P w K mg base 8 .fm "hessian" m_Form_hessian := by
  obtain ⟨fd, F⟩ := T.df 31 d_Form_hessian rfl
  exact T.prop 96 (fn_mk (N := ["self"]) (s := s_Form_hessian) F sc_Form_hessian rfl (fun _ _ _ _ _ _ us hl => match us, hl with | [_], _ => rfl) fun cdv A outer s0 H E hr => (gs_one (gs_ret (ge_call (cal_made_double T) hr (ga_cons (ge_call (cal_hessian_of T) hr (ga_cons (ge_slot .fm (ge_var 0) (cls_fm T) (slot_fm T)) ga_nil) (lenOk_cons lenOk_nil)) ga_nil) (lenOk_cons lenOk_nil)))))
theorem sc_require_other_than_zero : FnScope ["form"] ["form"] (defScope (top 62)) := ⟨rfl, rfl, rfl, by decide +kernel, rfl, by decide +kernel, by decide +kernel⟩
theorem cal_require_other_than_zero (T : Tx K mg base) : Cal P w K mg base 1 "require_other_than_zero" 1 m_require_other_than_zero := by
  obtain ⟨fd, F⟩ := T.df 32 d_require_other_than_zero rfl
  exact cal_mk (fn_mk (N := ["form"]) (s := s_require_other_than_zero) F sc_require_other_than_zero rfl (fun _ _ _ _ _ _ us hl => match us, hl with | [_], _ => rfl) fun cdv A outer s0 H E hr => (gs_one (gs_if (gt_not (gt_val (ge_callB (cs_anyT rfl) (ga_cons (ge_slot .fm (ge_var 0) (cls_fm T) (slot_fm T)) ga_nil) (n_any T)))) (gs_one gs_never) gs_nil))) (T.glo 24) (T.kpg 24)
theorem sc_Form_roots : FnScope ["self"] ["self"] (defScope (inClass (top 58) 11)) := ⟨rfl, rfl, rfl, by decide +kernel, rfl, by decide +kernel, by decide +kernel⟩
theorem meth_Form_roots (T : Tx K mg base) : MethF P w K mg base 5 .fm "roots" m_Form_roots := by
  obtain ⟨fd, F⟩ := T.df 33 d_Form_roots rfl
  exact ⟨_, T.meth 97, fn_mk (N := ["self"]) (s := s_Form_roots) F sc_Form_roots rfl (fun _ _ _ _ _ _ us hl => match us, hl with | [_], _ => rfl) fun cdv A outer s0 H E hr => (gs_cons (gs_drop (ge_call (cal_require_other_than_zero T) hr (ga_cons (ge_var 0) ga_nil) (lenOk_cons lenOk_nil))) (gs_one (gs_ret (ge_call (cal_places_of_cubic T) hr (ga_cons (ge_slot .fm (ge_var 0) (cls_fm T) (slot_fm T)) ga_nil) (lenOk_cons lenOk_nil)))))⟩
theorem sc_require_form : FnScope ["value"] ["value"] (defScope (top 61)) := ⟨rfl, rfl, rfl, by decide +kernel, rfl, by decide +kernel, by decide +kernel⟩
theorem cal_require_form (T : Tx K mg base) : Cal P w K mg base 1 "require_form" 1 m_require_form := by
  obtain ⟨fd, F⟩ := T.df 34 d_require_form rfl
  exact cal_mk (fn_mk (N := ["value"]) (s := s_require_form) F sc_require_form rfl (fun _ _ _ _ _ _ us hl => match us, hl with | [_], _ => rfl) fun cdv A outer s0 H E hr => (gs_one (gs_if (gt_not (gt_val (ge_isC .fm (ge_var 0) (cls_fm T) (n_isinstance T) (mg_Form T)))) (gs_one gs_never) gs_nil))) (T.glo 25) (T.kpg 25)
theorem sc_small_changes : FnScope ["pairs", "first", "second", "one", "other"] [] (defScope (top 69)) := ⟨rfl, rfl, rfl, by decide +kernel, rfl, by decide +kernel, by decide +kernel⟩
theorem cal_small_changes (T : Tx K mg base) : Cal P w K mg base 1 "small_changes" 0 m_small_changes := by
  obtain ⟨fd, F⟩ := T.df 35 d_small_changes rfl
  exact (show Cal P w K mg base 1 "small_changes" 0 o_small_changes from cal_mk (fn_mk (N := ["pairs", "first", "second", "one", "other"]) (s := s_small_changes) F sc_small_changes rfl (fun _ _ _ _ _ _ us hl => match us, hl with | [], _ => rfl) fun cdv A outer s0 H E hr => (gs_cons (gs_set 0 (ge_lc2 1 2 (y1 := "first") (y2 := "second") (gc_tup (ge_glD (g_SIGNS T))) (fun _ _ _ _ _ => pg_name (i := 1) sc_small_changes.nd rfl (Or.inl rfl) (Or.inr rfl)) (fun _ _ _ _ _ => (gk_con (g_SIGNS T))) (fun _ _ _ _ _ => pg_name (i := 2) sc_small_changes.nd rfl (Or.inl rfl) (Or.inr rfl)) (fun _ _ _ _ _ => gts_nil) (fun _ _ _ _ _ => (ge_tup (ga_cons (ge_var 1) (ga_cons (ge_var 2) ga_nil)))) rfl sc_small_changes.nd (show BlkOk ["pairs", "first", "second", "one", "other"] (defScope (top 69)) _ [("first", 1), ("second", 2)] from blkOk_by (by decide +kernel))) sc_small_changes.nd) (gs_one (gs_ret (ge_lc2 3 4 (y1 := "one") (y2 := "other") (gc_list (ge_var 0)) (fun _ _ _ _ _ => pg_name (i := 3) sc_small_changes.nd rfl (Or.inl rfl) (Or.inr rfl)) (fun _ _ _ _ _ => (gk_list 0)) (fun _ _ _ _ _ => pg_name (i := 4) sc_small_changes.nd rfl (Or.inl rfl) (Or.inr rfl)) (fun _ _ _ _ _ => gts_one (gt_cmp os_in (ge_op os_sub (ge_op os_mul (ge_ix (ge_var 3) ge_int) (ge_ix (ge_var 4) ge_int)) (ge_op os_mul (ge_ix (ge_var 3) ge_int) (ge_ix (ge_var 4) ge_int))) (ge_tup (ga_cons (ge_neg ge_int) (ga_cons ge_int ga_nil))) (by rfl))) (fun _ _ _ _ _ => (ge_tup (ga_cons (ge_var 3) (ga_cons (ge_var 4) ga_nil)))) rfl sc_small_changes.nd (show BlkOk ["pairs", "first", "second", "one", "other"] (defScope (top 69)) _ [("one", 3), ("other", 4)] from blkOk_by (by decide +kernel))))))) (T.glo 26) (T.kpg 26)).weaken weak_small_changes
theorem sc_way_to_small : FnScope ["row", "way", "first", "middle", "last", "many"] ["row"] (defScope (top 70)) := ⟨rfl, rfl, rfl, by decide +kernel, rfl, by decide +kernel, by decide +kernel⟩
theorem cal_way_to_small (T : Tx K mg base) : Cal P w K mg base 2 "way_to_small" 1 m_way_to_small := by
  obtain ⟨fd, F⟩ := T.df 36 d_way_to_small rfl
  exact cal_mk (fn_mk (N := ["row", "way", "first", "middle", "last", "many"]) (s := s_way_to_small) F sc_way_to_small rfl (fun _ _ _ _ _ _ us hl => match us, hl with | [_], _ => rfl) fun cdv A outer s0 H E hr => (gs_cons (gs_asg (ge_tup (ga_cons (ge_glD (g_IDLE T)) (ga_cons (ge_call (cal_hessian_of T) hr (ga_cons (ge_var 0) ga_nil) (lenOk_cons lenOk_nil)) ga_nil))) (gg_tup rfl (ggs_cons (gg_name 1 sc_way_to_small.nd) (ggs_cons (gg_tup rfl (ggs_cons (gg_name 2 sc_way_to_small.nd) (ggs_cons (gg_name 3 sc_way_to_small.nd) (ggs_cons (gg_name 4 sc_way_to_small.nd) ggs_nil)))) ggs_nil)))) (gs_cons (gs_while 64 (gt_w (gw_or (gt_cmp (os_gt hr.units) (ge_callB cs_abs (ga_cons (ge_var 3) ga_nil) (n_abs T)) (ge_var 2) (nomark _)) (gw_or1 (gt_cmp (os_gt hr.units) (ge_var 2) (ge_var 4) (nomark _))))) (gs_one (gs_if (gt_cmp (os_gt hr.units) (ge_callB cs_abs (ga_cons (ge_var 3) ga_nil) (n_abs T)) (ge_var 2) (nomark _)) (gs_cons (gs_set 5 (ge_neg (ge_op os_div (ge_op os_add (ge_var 3) (ge_var 2)) (ge_op os_mul ge_int (ge_var 2)))) sc_way_to_small.nd) (gs_cons (gs_set 1 (ge_call (cal_joined_in T) hr (ga_cons (ge_var 1) (ga_cons (ge_tup (ga_cons (ge_tup (ga_cons ge_int (ga_cons ge_int ga_nil))) (ga_cons (ge_tup (ga_cons (ge_var 5) (ga_cons ge_int ga_nil))) ga_nil))) ga_nil)) (lenOk_cons (lenOk_cons lenOk_nil))) sc_way_to_small.nd) (gs_one (gs_par 3 4 (ge_op os_add (ge_var 3) (ge_op os_mul (ge_op os_mul ge_int (ge_var 5)) (ge_var 2))) (ge_op os_add (ge_op os_add (ge_var 4) (ge_op os_mul (ge_var 5) (ge_var 3))) (ge_op os_mul (ge_op os_mul (ge_var 5) (ge_var 5)) (ge_var 2))) rfl sc_way_to_small.nd)))) (gs_cons (gs_set 1 (ge_call (cal_joined_in T) hr (ga_cons (ge_var 1) (ga_cons (ge_glD (g_SWAPPED T)) ga_nil)) (lenOk_cons (lenOk_cons lenOk_nil))) sc_way_to_small.nd) (gs_one (gs_par3 2 3 4 (ge_var 4) (ge_neg (ge_var 3)) (ge_var 2) rfl sc_way_to_small.nd))))) PassesOwn.never) (gs_one (gs_ret (ge_if (gt_cmp os_lt (ge_var 3) ge_int (nomark _)) (ge_call (cal_joined_in T) hr (ga_cons (ge_var 1) (ga_cons (ge_glD (g_MIRRORED T)) ga_nil)) (lenOk_cons (lenOk_cons lenOk_nil))) (ge_var 1))))))) (T.glo 27) (T.kpg 27)
theorem sc_led_above : FnScope ["row", "way", "here", "hessian", "change", "found", "last", "other"] ["row"] (defScope (top 71)) := ⟨rfl, rfl, rfl, by decide +kernel, rfl, by decide +kernel, by decide +kernel⟩
theorem cal_led_above (T : Tx K mg base) : Cal P w K mg base 3 "led_above" 1 m_led_above := by
  obtain ⟨fd, F⟩ := T.df 37 d_led_above rfl
  exact (show Cal P w K mg base 3 "led_above" 1 o_led_above from cal_mk (fn_mk (N := ["row", "way", "here", "hessian", "change", "found", "last", "other"]) (s := s_led_above) F sc_led_above rfl (fun _ _ _ _ _ _ us hl => match us, hl with | [_], _ => rfl) fun cdv A outer s0 H E hr => (gs_cons (gs_set 1 (ge_call (cal_way_to_small T) hr (ga_cons (ge_var 0) ga_nil) (lenOk_cons lenOk_nil)) sc_led_above.nd) (gs_cons (gs_set 2 (ge_call (cal_form_led T) hr (ga_cons (ge_var 0) (ga_cons (ge_var 1) ga_nil)) (lenOk_cons (lenOk_cons lenOk_nil))) sc_led_above.nd) (gs_cons (gs_set 3 (ge_call (cal_hessian_of T) hr (ga_cons (ge_var 2) ga_nil) (lenOk_cons lenOk_nil)) sc_led_above.nd) (gs_cons (gs_par 5 6 (ge_var 2) (ge_glD (g_IDLE T)) rfl sc_led_above.nd) (gs_cons (gs_for (gi_list (ge_call0 (cal_small_changes T) hr)) (gg_name 4 sc_led_above.nd) (gs_cons (gs_set 7 (ge_call (cal_form_led T) hr (ga_cons (ge_var 2) (ga_cons (ge_var 4) ga_nil)) (lenOk_cons (lenOk_cons lenOk_nil))) sc_led_above.nd) (gs_one (gs_if (gt_w (gw_and (gt_cmp (os_gt hr.units) (ge_var 7) (ge_var 5) (nomark _)) (gw_and1 (gt_cmp (os_eq hr.units) (ge_call (cal_hessian_of T) hr (ga_cons (ge_var 7) ga_nil) (lenOk_cons lenOk_nil)) (ge_var 3) (nomark _))))) (gs_one (gs_par 5 6 (ge_var 7) (ge_var 4) rfl sc_led_above.nd)) gs_nil))) rfl PassesOwn.never) (gs_one (gs_ret (ge_tup (ga_cons (ge_var 5) (ga_cons (ge_call (cal_joined_in T) hr (ga_cons (ge_var 1) (ga_cons (ge_var 6) ga_nil)) (lenOk_cons (lenOk_cons lenOk_nil))) ga_nil))))))))))) (T.glo 28) (T.kpg 28)).weaken weak_led_above
theorem sc_least_of : FnScope ["numbers", "discriminant"] ["numbers"] (defScope (top 96)) := ⟨rfl, rfl, rfl, by decide +kernel, rfl, by decide +kernel, by decide +kernel⟩
theorem cal_least_of (T : Tx K mg base) : Cal P w K mg base 4 "least_of" 1 m_least_of := by
  obtain ⟨fd, F⟩ := T.df 38 d_least_of rfl
  exact cal_mk (fn_mk (N := ["numbers", "discriminant"]) (s := s_least_of) F sc_least_of rfl (fun _ _ _ _ _ _ us hl => match us, hl with | [_], _ => rfl) fun cdv A outer s0 H E hr => (gs_cons (gs_set 1 (ge_call (cal_discriminant_of T) hr (ga_cons (ge_var 0) ga_nil) (lenOk_cons lenOk_nil)) sc_least_of.nd) (gs_cons (gs_if (gt_cmp (os_eq hr.units) (ge_var 1) ge_int (nomark _)) (gs_one (gs_ret ge_never)) gs_nil) (gs_one (gs_ret (ge_if (gt_cmp (os_gt hr.units) (ge_var 1) ge_int (nomark _)) (ge_call (cal_led_above T) hr (ga_cons (ge_var 0) ga_nil) (lenOk_cons lenOk_nil)) ge_never)))))) (T.glo 29) (T.kpg 29)
theorem sc_least_row : FnScope ["row"] ["row"] (defScope (top 97)) := ⟨rfl, rfl, rfl, by decide +kernel, rfl, by decide +kernel, by decide +kernel⟩
theorem cal_least_row (T : Tx K mg base) : Cal P w K mg base 5 "least_row" 1 m_least_row := by
  obtain ⟨fd, F⟩ := T.df 39 d_least_row rfl
  exact (show Cal P w K mg base 5 "least_row" 1 o_least_row from cal_mk (fn_mk (N := ["row"]) (s := s_least_row) F sc_least_row rfl (fun _ _ _ _ _ _ us hl => match us, hl with | [_], _ => rfl) fun cdv A outer s0 H E hr => (gs_one (gs_ret (ge_ix (ge_call (cal_least_of T) hr (ga_cons (ge_var 0) ga_nil) (lenOk_cons lenOk_nil)) ge_int)))) (T.glo 30) (T.kpg 30)).weaken (strict_ok _)
theorem sc_least_made : FnScope ["numbers"] ["numbers"] (defScope (top 98)) := ⟨rfl, rfl, rfl, by decide +kernel, rfl, by decide +kernel, by decide +kernel⟩
theorem cal_least_made (T : Tx K mg base) : Cal P w K mg base 8 "least_made" 1 m_least_made := by
  obtain ⟨fd, F⟩ := T.df 40 d_least_made rfl
  exact cal_mk (fn_mk (N := ["numbers"]) (s := s_least_made) F sc_least_made rfl (fun _ _ _ _ _ _ us hl => match us, hl with | [_], _ => rfl) fun cdv A outer s0 H E hr => (gs_one (gs_ret (ge_call (cal_made_form T) hr (ga_cons (ge_call (cal_least_row T) hr (ga_cons (ge_var 0) ga_nil) (lenOk_cons lenOk_nil)) ga_nil) (lenOk_cons lenOk_nil))))) (T.glo 31) (T.kpg 31)
theorem sc_require_short : FnScope ["numbers", "entry"] ["numbers"] (defScope (top 99)) := ⟨rfl, rfl, rfl, by decide +kernel, rfl, by decide +kernel, by decide +kernel⟩
theorem cal_require_short (T : Tx K mg base) : Cal P w K mg base 1 "require_short" 1 m_require_short := by
  obtain ⟨fd, F⟩ := T.df 41 d_require_short rfl
  exact cal_mk (fn_mk (N := ["numbers", "entry"]) (s := s_require_short) F sc_require_short rfl (fun _ _ _ _ _ _ us hl => match us, hl with | [_], _ => rfl) fun cdv A outer s0 H E hr => (gs_one (gs_if (gt_val (ge_callB (cs_anyB rfl) (ga_cons (ge_lc (own := [("entry", 1)]) (gc_tup (ge_var 0)) (ev_name (by decide)) (fun _ _ _ _ _ => pg_name (i := 1) sc_require_short.nd rfl (Or.inl rfl) (Or.inr rfl)) (fun _ _ _ _ _ => gts_nil) (fun _ _ _ _ _ => (ge_cmp os_ge (ge_callB cs_abs (ga_cons (ge_var 1) ga_nil) (n_abs T)) (ge_op os_pow ge_int ge_int) (nomark _))) rfl sc_require_short.nd (show BlkOk ["numbers", "entry"] (defScope (top 99)) _ [("entry", 1)] from blkOk_by (by decide +kernel))) ga_nil) (n_any T))) (gs_one gs_never) gs_nil))) (T.glo 32) (T.kpg 32)
theorem sc_is_least : FnScope ["form"] ["form"] (defScope (top 100)) := ⟨rfl, rfl, rfl, by decide +kernel, rfl, by decide +kernel, by decide +kernel⟩
theorem cal_is_least (T : Tx K mg base) : Cal P w K mg base 5 "is_least" 1 m_is_least := by
  obtain ⟨fd, F⟩ := T.df 42 d_is_least rfl
  exact cal_mk (fn_mk (N := ["form"]) (s := s_is_least) F sc_is_least rfl (fun _ _ _ _ _ _ us hl => match us, hl with | [_], _ => rfl) fun cdv A outer s0 H E hr => (gs_cons (gs_drop (ge_call (cal_require_form T) hr (ga_cons (ge_var 0) ga_nil) (lenOk_cons lenOk_nil))) (gs_cons (gs_drop (ge_call (cal_require_short T) hr (ga_cons (ge_slot .fm (ge_var 0) (cls_fm T) (slot_fm T)) ga_nil) (lenOk_cons lenOk_nil))) (gs_one (gs_ret (ge_cmp (os_eq hr.units) (ge_ix (ge_call (cal_least_of T) hr (ga_cons (ge_slot .fm (ge_var 0) (cls_fm T) (slot_fm T)) ga_nil) (lenOk_cons lenOk_nil)) ge_int) (ge_slot .fm (ge_var 0) (cls_fm T) (slot_fm T)) (nomark _))))))) (T.glo 33) (T.kpg 33)
theorem sc_least_form : FnScope ["form"] ["form"] (defScope (top 101)) := ⟨rfl, rfl, rfl, by decide +kernel, rfl, by decide +kernel, by decide +kernel⟩
theorem cal_least_form (T : Tx K mg base) : Cal P w K mg base 9 "least_form" 1 m_least_form := by
  obtain ⟨fd, F⟩ := T.df 43 d_least_form rfl
  exact cal_mk (fn_mk (N := ["form"]) (s := s_least_form) F sc_least_form rfl (fun _ _ _ _ _ _ us hl => match us, hl with | [_], _ => rfl) fun cdv A outer s0 H E hr => (gs_cons (gs_drop (ge_call (cal_require_form T) hr (ga_cons (ge_var 0) ga_nil) (lenOk_cons lenOk_nil))) (gs_cons (gs_drop (ge_call (cal_require_short T) hr (ga_cons (ge_slot .fm (ge_var 0) (cls_fm T) (slot_fm T)) ga_nil) (lenOk_cons lenOk_nil))) (gs_one (gs_ret (ge_call (cal_least_made T) hr (ga_cons (ge_slot .fm (ge_var 0) (cls_fm T) (slot_fm T)) ga_nil) (lenOk_cons lenOk_nil))))))) (T.glo 34) (T.kpg 34)
theorem sc_places_at : FnScope ["prime", "x"] ["prime"] (defScope (top 107)) := ⟨rfl, rfl, rfl, by decide +kernel, rfl, by decide +kernel, by decide +kernel⟩
theorem cal_places_at (T : Tx K mg base) : Cal P w K mg base 1 "places_at" 1 m_places_at := by
  obtain ⟨fd, F⟩ := T.df 44 d_places_at rfl
  exact cal_mk (fn_mk (N := ["prime", "x"]) (s := s_places_at) F sc_places_at rfl (fun _ _ _ _ _ _ us hl => match us, hl with | [_], _ => rfl) fun cdv A outer s0 H E hr => (gs_one (gs_ret (ge_callB (cs_sorted rfl hr.units) (ga_cons (ge_lst (ga_cons (ge_glD (g_END_steps T)) (ga_star (ge_lc (own := [("x", 1)]) (gc_range1 (ge_var 0) (n_range T)) (ev_name (by decide)) (fun _ _ _ _ _ => pg_name (i := 1) sc_places_at.nd rfl (Or.inl rfl) (Or.inr rfl)) (fun _ _ _ _ _ => gts_nil) (fun _ _ _ _ _ => (ge_tup (ga_cons (ge_var 1) (ga_cons ge_int ga_nil)))) rfl sc_places_at.nd (show BlkOk ["prime", "x"] (defScope (top 107)) _ [("x", 1)] from blkOk_by (by decide +kernel))) ga_nil))) ga_nil) (n_sorted T))))) (T.glo 35) (T.kpg 35)
theorem sc_slope_at : FnScope ["numbers", "x"] ["numbers", "x"] (defScope (top 108)) := ⟨rfl, rfl, rfl, by decide +kernel, rfl, by decide +kernel, by decide +kernel⟩
theorem cal_slope_at (T : Tx K mg base) : Cal P w K mg base 1 "slope_at" 2 m_slope_at := by
  obtain ⟨fd, F⟩ := T.df 45 d_slope_at rfl
  exact cal_mk (fn_mk (N := ["numbers", "x"]) (s := s_slope_at) F sc_slope_at rfl (fun _ _ _ _ _ _ us hl => match us, hl with | [_, _], _ => rfl) fun cdv A outer s0 H E hr => (gs_one (gs_ret (ge_op os_add (ge_op os_add (ge_op os_mul (ge_op os_mul (ge_op os_mul ge_int (ge_ix (ge_var 0) ge_int)) (ge_var 1)) (ge_var 1)) (ge_op os_mul (ge_op os_mul ge_int (ge_ix (ge_var 0) ge_int)) (ge_var 1))) (ge_ix (ge_var 0) ge_int))))) (T.glo 36) (T.kpg 36)
theorem sc_is_heavy : FnScope ["numbers", "prime", "place"] ["numbers", "prime", "place"] (defScope (top 109)) := ⟨rfl, rfl, rfl, by decide +kernel, rfl, by decide +kernel, by decide +kernel⟩
theorem cal_is_heavy (T : Tx K mg base) : Cal P w K mg base 2 "is_heavy" 3 m_is_heavy := by
  obtain ⟨fd, F⟩ := T.df 46 d_is_heavy rfl
  exact (show Cal P w K mg base 2 "is_heavy" 3 o_is_heavy from cal_mk (fn_mk (N := ["numbers", "prime", "place"]) (s := s_is_heavy) F sc_is_heavy rfl (fun _ _ _ _ _ _ us hl => match us, hl with | [_, _, _], _ => rfl) fun cdv A outer s0 H E hr => (gs_cons (gs_if (gt_cmp (os_ne hr.units) (ge_op os_mod (ge_call (cal_form_at T) hr (ga_cons (ge_var 0) (ga_cons (ge_ix (ge_var 2) ge_int) (ga_cons (ge_ix (ge_var 2) ge_int) ga_nil))) (lenOk_cons (lenOk_cons (lenOk_cons lenOk_nil)))) (ge_op os_mul (ge_var 1) (ge_var 1))) ge_int (nomark _)) (gs_one (gs_ret ge_bl)) gs_nil) (gs_one (gs_ret (ge_cmp (os_eq hr.units) (ge_op os_mod (ge_if (gt_cmp (os_eq hr.units) (ge_var 2) (ge_glD (g_END_steps T)) (nomark _)) (ge_ix (ge_var 0) ge_int) (ge_call (cal_slope_at T) hr (ga_cons (ge_var 0) (ga_cons (ge_ix (ge_var 2) ge_int) ga_nil)) (lenOk_cons (lenOk_cons lenOk_nil)))) (ge_var 1)) ge_int (nomark _)))))) (T.glo 37) (T.kpg 37)).weaken weak_is_heavy
theorem sc_is_divided : FnScope ["numbers", "prime", "number"] ["numbers", "prime"] (defScope (top 110)) := ⟨rfl, rfl, rfl, by decide +kernel, rfl, by decide +kernel, by decide +kernel⟩
theorem cal_is_divided (T : Tx K mg base) : Cal P w K mg base 1 "is_divided" 2 m_is_divided := by
  obtain ⟨fd, F⟩ := T.df 47 d_is_divided rfl
  exact cal_mk (fn_mk (N := ["numbers", "prime", "number"]) (s := s_is_divided) F sc_is_divided rfl (fun _ _ _ _ _ _ us hl => match us, hl with | [_, _], _ => rfl) fun cdv A outer s0 H E hr => (gs_one (gs_ret (ge_callB (cs_all rfl) (ga_cons (ge_lc (own := [("number", 2)]) (gc_tup (ge_var 0)) (ev_name (by decide)) (fun _ _ _ _ _ => pg_name (i := 2) sc_is_divided.nd rfl (Or.inl rfl) (Or.inr rfl)) (fun _ _ _ _ _ => gts_nil) (fun _ _ _ _ _ => (ge_cmp (os_eq hr.units) (ge_op os_mod (ge_var 2) (ge_var 1)) ge_int (nomark _))) rfl sc_is_divided.nd (show BlkOk ["numbers", "prime", "number"] (defScope (top 110)) _ [("number", 2)] from blkOk_by (by decide +kernel))) ga_nil) (n_all T))))) (T.glo 38) (T.kpg 38)
theorem sc_require_stepped : FnScope ["form", "size"] ["form"] (defScope (top 111)) := ⟨rfl, rfl, rfl, by decide +kernel, rfl, by decide +kernel, by decide +kernel⟩
theorem cal_require_stepped (T : Tx K mg base) : Cal P w K mg base 4 "require_stepped" 1 m_require_stepped := by
  obtain ⟨fd, F⟩ := T.df 48 d_require_stepped rfl
  exact cal_mk (fn_mk (N := ["form", "size"]) (s := s_require_stepped) F sc_require_stepped rfl (fun _ _ _ _ _ _ us hl => match us, hl with | [_], _ => rfl) fun cdv A outer s0 H E hr => (gs_cons (gs_drop (ge_call (cal_require_form T) hr (ga_cons (ge_var 0) ga_nil) (lenOk_cons lenOk_nil))) (gs_cons (gs_set 1 (ge_callB cs_abs (ga_cons (ge_prop .fm (ge_var 0) (cls_fm T) (prop_Form_discriminant T) hr) ga_nil) (n_abs T)) sc_require_stepped.nd) (gs_cons (gs_if (gt_cmp (os_eq hr.units) (ge_var 1) ge_int (nomark _)) (gs_one gs_never) gs_nil) (gs_one (gs_if (gt_cmp (os_gt hr.units) (ge_var 1) (ge_glD (g_MAX_STEPPED T)) (nomark _)) (gs_one gs_never) gs_nil)))))) (T.glo 39) (T.kpg 39)
theorem sc_double_primes : FnScope ["number", "found", "part", "many"] ["number"] (defScope (top 112)) := ⟨rfl, rfl, rfl, by decide +kernel, rfl, by decide +kernel, by decide +kernel⟩
theorem cal_double_primes (T : Tx K mg base) : Cal P w K mg base 1 "double_primes" 1 m_double_primes := by
  obtain ⟨fd, F⟩ := T.df 49 d_double_primes rfl
  exact (show Cal P w K mg base 1 "double_primes" 1 o_double_primes from cal_mk (fn_mk (N := ["number", "found", "part", "many"]) (s := s_double_primes) F sc_double_primes rfl (fun _ _ _ _ _ _ us hl => match us, hl with | [_], _ => rfl) fun cdv A outer s0 H E hr => (gs_cons (gs_par 1 2 (ge_lst ga_nil) ge_int rfl sc_double_primes.nd) (gs_cons (gs_while 1000 (gt_cmp os_le (ge_op os_mul (ge_var 2) (ge_var 2)) (ge_var 0) (nomark _)) (gs_cons (gs_if (gt_cmp (os_eq hr.units) (ge_op os_mod (ge_var 0) (ge_var 2)) ge_int (nomark _)) (gs_cons (gs_set 3 ge_int sc_double_primes.nd) (gs_cons (gs_while 1000 (gt_cmp (os_eq hr.units) (ge_op os_mod (ge_var 0) (ge_var 2)) ge_int (nomark _)) (gs_one (gs_par 0 3 (ge_op os_div (ge_var 0) (ge_var 2)) (ge_op os_add (ge_var 3) ge_int) rfl sc_double_primes.nd)) PassesOwn.never) (gs_one (gs_if (gt_cmp (os_gt hr.units) (ge_var 3) ge_int (nomark _)) (gs_one (gs_append 1 (ge_var 2))) gs_nil)))) gs_nil) (gs_one (gs_aug 2 os_iadd ge_int sc_double_primes.nd))) PassesOwn.never) (gs_one (gs_retV 1))))) (T.glo 40) (T.kpg 40)).weaken fun ws r h => weak_double_primes ws r (strict_ok _ ws r h)
theorem sc_bar_at : FnScope ["numbers", "prime", "place"] ["numbers", "prime"] (defScope (top 113)) := ⟨rfl, rfl, rfl, by decide +kernel, rfl, by decide +kernel, by decide +kernel⟩
theorem cal_bar_at (T : Tx K mg base) : Cal P w K mg base 6 "bar_at" 2 m_bar_at := by
  obtain ⟨fd, F⟩ := T.df 50 d_bar_at rfl
  exact (show Cal P w K mg base 6 "bar_at" 2 o_bar_at from cal_mk (fn_mkC (q := ("bar_at", none)) (N := ["numbers", "prime", "place"]) (s := s_bar_at) F sc_bar_at rfl (fun _ _ _ _ _ _ us hl => match us, hl with | [_, _], _ => rfl) fun A outer s0 H E hr => (gs_cons (gs_if (gt_val (ge_call (cal_is_divided T) hr (ga_cons (ge_var 0) (ga_cons (ge_var 1) ga_nil)) (lenOk_cons (lenOk_cons lenOk_nil)))) (gs_one (gs_ret (ge_tup (ga_cons (ge_glD (g_CONTENT T)) (ga_cons (ge_var 1) ga_nil))))) gs_nil) (gs_cons (gs_set 2 (ge_next (k := 2) 2 hr (by decide) (fun _ t => t.1) T.tb1 rfl rfl sc_bar_at.nd (n_next T) (fun _ => (gc_list (ge_call (cal_places_at T) hr (ga_cons (ge_var 1) ga_nil) (lenOk_cons lenOk_nil)))) (fun _ _ _ _ _ _ hr => (gt_val (ge_call (cal_is_heavy T) hr (ga_cons (ge_var 0) (ga_cons (ge_var 1) (ga_cons (ge_var 2) ga_nil))) (lenOk_cons (lenOk_cons (lenOk_cons lenOk_nil)))))) (show BlkOk ["numbers", "prime", "place"] (defScope (top 113)) _ [("place", 2)] from blkOk_by (by decide +kernel)) (by decide) rfl rfl) sc_bar_at.nd) (gs_one (gs_ret (ge_if (gt_cmp os_isN (ge_var 2) ge_non (nomark _)) ge_non (ge_tup (ga_cons (ge_glD (g_PLACE T)) (ga_cons (ge_var 1) (ga_cons (ge_var 2) ga_nil)))))))))) (T.glo 41) (T.kpg 41)).weaken weak_bar_at
theorem sc_first_bar : FnScope ["numbers", "primes", "one", "prime"] ["numbers", "primes"] (defScope (top 114)) := ⟨rfl, rfl, rfl, by decide +kernel, rfl, by decide +kernel, by decide +kernel⟩
theorem cal_first_bar (T : Tx K mg base) : Cal P w K mg base 7 "first_bar" 2 m_first_bar := by
  obtain ⟨fd, F⟩ := T.df 51 d_first_bar rfl
  exact cal_mk (fn_mkC (q := ("first_bar", none)) (N := ["numbers", "primes", "one", "prime"]) (s := s_first_bar) F sc_first_bar rfl (fun _ _ _ _ _ _ us hl => match us, hl with | [_, _], _ => rfl) fun A outer s0 H E hr => (gs_one (gs_ret (ge_next (k := 0) 2 hr (by decide) (fun _ t => t.2) T.tb2 rfl rfl sc_first_bar.nd (n_next T) (fun _ => (gc_list (ge_lc (own := [("prime", 3)]) (gc_list (ge_var 1)) (ev_name (by decide)) (fun _ _ _ _ _ => pg_name (i := 3) sc_first_bar.nd rfl (Or.inl rfl) (Or.inr rfl)) (fun _ _ _ _ _ => gts_nil) (fun _ _ _ _ _ => (ge_call (cal_bar_at T) hr (ga_cons (ge_var 0) (ga_cons (ge_var 3) ga_nil)) (lenOk_cons (lenOk_cons lenOk_nil)))) rfl sc_first_bar.nd (show BlkOk ["numbers", "primes", "one", "prime"] (defScope (top 114)) _ [("prime", 3)] from blkOk_by (by decide +kernel))))) (fun _ _ _ _ _ _ hr => (gt_cmp os_notN (ge_var 2) ge_non (nomark _))) (show BlkOk ["numbers", "primes", "one", "prime"] (defScope (top 114)) _ [("one", 2)] from blkOk_by (by decide +kernel)) (by decide) rfl rfl)))) (T.glo 42) (T.kpg 42)
theorem sc_bar : FnScope ["form"] ["form"] (defScope (top 115)) := ⟨rfl, rfl, rfl, by decide +kernel, rfl, by decide +kernel, by decide +kernel⟩
theorem cal_bar (T : Tx K mg base) : Cal P w K mg base 8 "bar" 1 m_bar := by
  obtain ⟨fd, F⟩ := T.df 52 d_bar rfl
  exact cal_mk (fn_mk (N := ["form"]) (s := s_bar) F sc_bar rfl (fun _ _ _ _ _ _ us hl => match us, hl with | [_], _ => rfl) fun cdv A outer s0 H E hr => (gs_cons (gs_drop (ge_call (cal_require_stepped T) hr (ga_cons (ge_var 0) ga_nil) (lenOk_cons lenOk_nil))) (gs_one (gs_ret (ge_call (cal_first_bar T) hr (ga_cons (ge_slot .fm (ge_var 0) (cls_fm T) (slot_fm T)) (ga_cons (ge_call (cal_double_primes T) hr (ga_cons (ge_callB cs_abs (ga_cons (ge_prop .fm (ge_var 0) (cls_fm T) (prop_Form_discriminant T) hr) ga_nil) (n_abs T)) ga_nil) (lenOk_cons lenOk_nil)) ga_nil)) (lenOk_cons (lenOk_cons lenOk_nil))))))) (T.glo 43) (T.kpg 43)
theorem sc_is_greatest : FnScope ["form"] ["form"] (defScope (top 116)) := ⟨rfl, rfl, rfl, by decide +kernel, rfl, by decide +kernel, by decide +kernel⟩
theorem cal_is_greatest (T : Tx K mg base) : Cal P w K mg base 9 "is_greatest" 1 m_is_greatest := by
  obtain ⟨fd, F⟩ := T.df 53 d_is_greatest rfl
  exact (show Cal P w K mg base 9 "is_greatest" 1 o_is_greatest from cal_mk (fn_mk (N := ["form"]) (s := s_is_greatest) F sc_is_greatest rfl (fun _ _ _ _ _ _ us hl => match us, hl with | [_], _ => rfl) fun cdv A outer s0 H E hr => (gs_one (gs_ret (ge_cmp os_isN (ge_call (cal_bar T) hr (ga_cons (ge_var 0) ga_nil) (lenOk_cons lenOk_nil)) ge_non (nomark _))))) (T.glo 44) (T.kpg 44)).weaken (strict_ok _)
theorem sc_turning_numbers : FnScope ["first", "second"] ["first", "second"] (defScope (top 119)) := ⟨rfl, rfl, rfl, by decide +kernel, rfl, by decide +kernel, by decide +kernel⟩
theorem cal_turning_numbers (T : Tx K mg base) : Cal P w K mg base 1 "turning_numbers" 2 m_turning_numbers := by
  obtain ⟨fd, F⟩ := T.df 54 d_turning_numbers rfl
  exact cal_mk (fn_mk (N := ["first", "second"]) (s := s_turning_numbers) F sc_turning_numbers rfl (fun _ _ _ _ _ _ us hl => match us, hl with | [_, _], _ => rfl) fun cdv A outer s0 H E hr => (gs_one (gs_ret (ge_tup (ga_cons (ge_var 0) (ga_cons (ge_var 1) (ga_cons (ge_op os_sub (ge_var 1) (ge_op os_mul ge_int (ge_var 0))) (ga_cons (ge_neg (ge_var 0)) ga_nil)))))))) (T.glo 45) (T.kpg 45)
theorem sc_is_turning : FnScope ["form", "number", "content"] ["form"] (defScope (top 120)) := ⟨rfl, rfl, rfl, by decide +kernel, rfl, by decide +kernel, by decide +kernel⟩
theorem cal_is_turning (T : Tx K mg base) : Cal P w K mg base 10 "is_turning" 1 m_is_turning := by
  obtain ⟨fd, F⟩ := T.df 55 d_is_turning rfl
  exact cal_mk (fn_mk (N := ["form", "number", "content"]) (s := s_is_turning) F sc_is_turning rfl (fun _ _ _ _ _ _ us hl => match us, hl with | [_], _ => rfl) fun cdv A outer s0 H E hr => (gs_cons (gs_drop (ge_call (cal_require_form T) hr (ga_cons (ge_var 0) ga_nil) (lenOk_cons lenOk_nil))) (gs_cons (gs_set 1 (ge_prop .fm (ge_var 0) (cls_fm T) (prop_Form_discriminant T) hr) sc_is_turning.nd) (gs_cons (gs_if (gt_cmp (os_eq hr.units) (ge_var 1) ge_int (nomark _)) (gs_one gs_never) gs_nil) (gs_cons (gs_set 2 (ge_prop .db (ge_prop .fm (ge_var 0) (cls_fm T) (prop_Form_hessian T) hr) (cls_db T) (prop_Double_content T) hr) sc_is_turning.nd) (gs_one (gs_ret (ge_cmp (os_eq hr.units) (ge_op os_mul (ge_var 2) (ge_var 2)) (ge_var 1) (nomark _))))))))) (T.glo 46) (T.kpg 46)
theorem sc_is_product_of_parts : FnScope ["number", "prime", "times"] ["number"] (defScope (top 121)) := ⟨rfl, rfl, rfl, by decide +kernel, rfl, by decide +kernel, by decide +kernel⟩
theorem cal_is_product_of_parts (T : Tx K mg base) : Cal P w K mg base 3 "is_product_of_parts" 1 m_is_product_of_parts := by
  obtain ⟨fd, F⟩ := T.df 56 d_is_product_of_parts rfl
  exact (show Cal P w K mg base 3 "is_product_of_parts" 1 o_is_product_of_parts from cal_mk (fn_mk (N := ["number", "prime", "times"]) (s := s_is_product_of_parts) F sc_is_product_of_parts rfl (fun _ _ _ _ _ _ us hl => match us, hl with | [_], _ => rfl) fun cdv A outer s0 H E hr => (gs_cons (gs_for (gi_list (ge_call (cal_factors_in T) hr (ga_cons (ge_var 0) ga_nil) (lenOk_cons lenOk_nil))) (gg_tup rfl (ggs_cons (gg_name 1 sc_is_product_of_parts.nd) (ggs_cons (gg_name 2 sc_is_product_of_parts.nd) ggs_nil))) (gs_one (gs_if (gt_w (gw_or (gt_cmp (os_ne hr.units) (ge_var 2) (ge_if (gt_cmp (os_eq hr.units) (ge_var 1) ge_int (nomark _)) ge_int ge_int) (nomark _)) (gw_or1 (gt_cmp (os_eq hr.units) (ge_op os_mod (ge_var 1) ge_int) ge_int (nomark _))))) (gs_one (gs_ret ge_bl)) gs_nil)) rfl PassesOwn.never) (gs_one (gs_ret (ge_cmp (os_gt hr.units) (ge_var 0) ge_int (nomark _)))))) (T.glo 47) (T.kpg 47)).weaken (strict_ok _)
theorem sc_turning_forms_of : FnScope ["number", "first", "found", "most", "left", "root", "sign"] ["number"] (defScope (top 122)) := ⟨rfl, rfl, rfl, by decide +kernel, rfl, by decide +kernel, by decide +kernel⟩
theorem cal_turning_forms_of (T : Tx K mg base) : Cal P w K mg base 7 "turning_forms_of" 1 m_turning_forms_of := by
  obtain ⟨fd, F⟩ := T.df 57 d_turning_forms_of rfl
  exact (show Cal P w K mg base 7 "turning_forms_of" 1 o_turning_forms_of from cal_mk (fn_mk (N := ["number", "first", "found", "most", "left", "root", "sign"]) (s := s_turning_forms_of) F sc_turning_forms_of rfl (fun _ _ _ _ _ _ us hl => match us, hl with | [_], _ => rfl) fun cdv A outer s0 H E hr => (gs_cons (gs_par 2 3 (ge_lst ga_nil) (ge_callM cs_sqrt (ga_cons (ge_op os_div (ge_op os_mul ge_int (ge_var 0)) ge_int) ga_nil) (n_isqrt T)) rfl sc_turning_forms_of.nd) (gs_cons (gs_for (gi_range2 (ge_neg (ge_var 3)) (ge_op os_add (ge_var 3) ge_int) (n_range T)) (gg_name 1 sc_turning_forms_of.nd) (gs_cons (gs_set 4 (ge_op os_sub (ge_op os_mul ge_int (ge_var 0)) (ge_op os_mul (ge_op os_mul ge_int (ge_var 1)) (ge_var 1))) sc_turning_forms_of.nd) (gs_cons (gs_set 5 (ge_callM cs_sqrt (ga_cons (ge_var 4) ga_nil) (n_isqrt T)) sc_turning_forms_of.nd) (gs_one (gs_if (gt_w (gw_and (gt_cmp (os_eq hr.units) (ge_op os_mul (ge_var 5) (ge_var 5)) (ge_var 4) (nomark _)) (gw_and1 (gt_cmp (os_eq hr.units) (ge_op os_mod (ge_op os_add (ge_var 5) (ge_op os_mul ge_int (ge_var 1))) ge_int) ge_int (nomark _))))) (gs_one (gs_extend 2 (ge_lc (own := [("sign", 6)]) (gc_tup (ge_tup (ga_cons ge_int (ga_cons (ge_neg ge_int) ga_nil)))) (ev_name (by decide)) (fun _ _ _ _ _ => pg_name (i := 6) sc_turning_forms_of.nd rfl (Or.inl rfl) (Or.inr rfl)) (fun _ _ _ _ _ => gts_nil) (fun _ _ _ _ _ => (ge_make .fm (mak_Form T) (mg_Form T) hr (ga_cons (ge_call (cal_turning_numbers T) hr (ga_cons (ge_var 1) (ga_cons (ge_op os_div (ge_op os_add (ge_op os_mul (ge_var 6) (ge_var 5)) (ge_op os_mul ge_int (ge_var 1))) ge_int) ga_nil)) (lenOk_cons (lenOk_cons lenOk_nil))) ga_nil) (lenOk_cons lenOk_nil))) rfl sc_turning_forms_of.nd (show BlkOk ["number", "first", "found", "most", "left", "root", "sign"] (defScope (top 122)) _ [("sign", 6)] from blkOk_by (by decide +kernel))))) gs_nil)))) rfl PassesOwn.never) (gs_one (gs_retV 2))))) (T.glo 48) (T.kpg 48)).weaken (strict_ok _)
theorem sc_square_fields : FnScope ["conductor", "forms", "told", "form", "coefficients"] ["conductor"] (defScope (top 123)) := ⟨rfl, rfl, rfl, by decide +kernel, rfl, by decide +kernel, by decide +kernel⟩
theorem cal_square_fields (T : Tx K mg base) : Cal P w K mg base 10 "square_fields" 1 m_square_fields := by
  obtain ⟨fd, F⟩ := T.df 58 d_square_fields rfl
  exact (show Cal P w K mg base 10 "square_fields" 1 o_square_fields from cal_mk (fn_mk (N := ["conductor", "forms", "told", "form", "coefficients"]) (s := s_square_fields) F sc_square_fields rfl (fun _ _ _ _ _ _ us hl => match us, hl with | [_], _ => rfl) fun cdv A outer s0 H E hr => (gs_cons (gs_drop (ge_call (cal_require_within T) hr (ga_cons (ge_var 0) (ga_cons ge_int (ga_cons (ge_glD (g_MAX_CONDUCTOR T)) ga_nil))) (lenOk_cons (lenOk_cons (lenOk_cons lenOk_nil))))) (gs_cons (gs_if (gt_not (gt_val (ge_call (cal_is_product_of_parts T) hr (ga_cons (ge_var 0) ga_nil) (lenOk_cons lenOk_nil)))) (gs_one (gs_ret (ge_tup ga_nil))) gs_nil) (gs_cons (gs_setLc 1 (own := [("form", 3)]) (gc_list (ge_call (cal_turning_forms_of T) hr (ga_cons (ge_var 0) ga_nil) (lenOk_cons lenOk_nil))) (ev_name (by decide)) (fun _ _ _ _ _ => pg_name (i := 3) sc_square_fields.nd rfl (Or.inl rfl) (Or.inr rfl)) (fun _ _ _ _ _ => gts_one (gt_w (gw_and (gt_cmp (os_eq hr.units) (ge_meth0 .fm (ge_var 3) (cls_fm T) (meth_Form_roots T) hr) (ge_tup ga_nil) (nomark _)) (gw_and1 (gt_val (ge_call (cal_is_greatest T) hr (ga_cons (ge_var 3) ga_nil) (lenOk_cons lenOk_nil))))))) (fun _ _ _ _ _ => (ge_var 3)) rfl sc_square_fields.nd (show BlkOk ["conductor", "forms", "told", "form", "coefficients"] (defScope (top 123)) _ [("form", 3)] from blkOk_by (by decide +kernel)) rfl) (gs_cons (gs_setSc 2 (own := [("form", 3)]) (gc_list (ge_var 1)) (ev_name (by decide)) (fun _ _ _ _ _ => pg_name (i := 3) sc_square_fields.nd rfl (Or.inl rfl) (Or.inr rfl)) (fun _ _ _ _ _ => gts_nil) (fun _ _ _ _ _ => (ge_prop .fm (ge_call (cal_least_form T) hr (ga_cons (ge_var 3) ga_nil) (lenOk_cons lenOk_nil)) (cls_fm T) (prop_Form_coefficients T) hr)) rfl hr.units sc_square_fields.nd (show BlkOk ["conductor", "forms", "told", "form", "coefficients"] (defScope (top 123)) _ [("form", 3)] from blkOk_by (by decide +kernel)) rfl) (gs_one (gs_ret (ge_callT cs_tup (ga_cons (ge_lc (own := [("coefficients", 4)]) (gc_list (ge_callB (cs_sorted rfl hr.units) (ga_cons (ge_var 2) ga_nil) (n_sorted T))) (ev_name (by decide)) (fun _ _ _ _ _ => pg_name (i := 4) sc_square_fields.nd rfl (Or.inl rfl) (Or.inr rfl)) (fun _ _ _ _ _ => gts_nil) (fun _ _ _ _ _ => (ge_make .fm (mak_Form T) (mg_Form T) hr (ga_cons (ge_var 4) ga_nil) (lenOk_cons lenOk_nil))) rfl sc_square_fields.nd (show BlkOk ["conductor", "forms", "told", "form", "coefficients"] (defScope (top 123)) _ [("coefficients", 4)] from blkOk_by (by decide +kernel))) ga_nil) (n_tuple T))))))))) (T.glo 49) (T.kpg 49)).weaken (strict_ok _)
theorem sc__law_root : FnScope ["_law_number", "_law_found", "_law_turn", "_law_later"] ["_law_number"] (defScope (top 128)) := ⟨rfl, rfl, rfl, by decide +kernel, rfl, by decide +kernel, by decide +kernel⟩
theorem cal__law_root (T : Tx K mg base) : Cal P w K mg base 1 "_law_root" 1 m__law_root := by
  obtain ⟨fd, F⟩ := T.df 59 d__law_root rfl
  exact (show Cal P w K mg base 1 "_law_root" 1 o__law_root from cal_mk (fn_mk (N := ["_law_number", "_law_found", "_law_turn", "_law_later"]) (s := s__law_root) F sc__law_root rfl (fun _ _ _ _ _ _ us hl => match us, hl with | [_], _ => rfl) fun cdv A outer s0 H E hr => (gs_cons (gs_if (gt_cmp os_lt (ge_var 0) ge_int (nomark _)) (gs_one (gs_retV 0)) gs_nil) (gs_cons (gs_set 1 ge_int sc__law_root.nd) (gs_cons (gs_while 64 (gt_cmp os_le (ge_op os_mul (ge_var 1) (ge_var 1)) (ge_var 0) (nomark _)) (gs_one (gs_set 1 (ge_op os_mul (ge_var 1) ge_int) sc__law_root.nd)) PassesOwn.never) (gs_cons (gs_for (gi_range1 ge_int (n_range T)) (gg_name 2 sc__law_root.nd) (gs_cons (gs_set 3 (ge_op os_div (ge_op os_add (ge_var 1) (ge_op os_div (ge_var 0) (ge_var 1))) ge_int) sc__law_root.nd) (gs_cons (gs_if (gt_cmp os_ge (ge_var 3) (ge_var 1) (nomark _)) (gs_one gs_break) gs_nil) (gs_one (gs_set 1 (ge_var 3) sc__law_root.nd)))) rfl PassesOwn.never) (gs_one (gs_retV 1))))))) (T.glo 50) (T.kpg 50)).weaken fun ws r h => weak__law_root ws r (strict_ok _ ws r h)
theorem sc__law_turning : FnScope ["_law_a", "_law_b"] ["_law_a", "_law_b"] (defScope (top 129)) := ⟨rfl, rfl, rfl, by decide +kernel, rfl, by decide +kernel, by decide +kernel⟩
theorem cal__law_turning (T : Tx K mg base) : Cal P w K mg base 1 "_law_turning" 2 m__law_turning := by
  obtain ⟨fd, F⟩ := T.df 60 d__law_turning rfl
  exact cal_mk (fn_mk (N := ["_law_a", "_law_b"]) (s := s__law_turning) F sc__law_turning rfl (fun _ _ _ _ _ _ us hl => match us, hl with | [_, _], _ => rfl) fun cdv A outer s0 H E hr => (gs_one (gs_ret (ge_tup (ga_cons (ge_var 0) (ga_cons (ge_var 1) (ga_cons (ge_op os_sub (ge_var 1) (ge_op os_mul ge_int (ge_var 0))) (ga_cons (ge_op os_sub ge_int (ge_var 0)) ga_nil)))))))) (T.glo 51) (T.kpg 51)
theorem sc__law_parts_of : FnScope ["_law_conductor", "_law_left", "_law_found", "_law_part", "_law_many"] ["_law_conductor"] (defScope (top 130)) := ⟨rfl, rfl, rfl, by decide +kernel, rfl, by decide +kernel, by decide +kernel⟩
theorem cal__law_parts_of (T : Tx K mg base) : Cal P w K mg base 1 "_law_parts_of" 1 m__law_parts_of := by
  obtain ⟨fd, F⟩ := T.df 61 d__law_parts_of rfl
  exact (show Cal P w K mg base 1 "_law_parts_of" 1 o__law_parts_of from cal_mk (fn_mk (N := ["_law_conductor", "_law_left", "_law_found", "_law_part", "_law_many"]) (s := s__law_parts_of) F sc__law_parts_of rfl (fun _ _ _ _ _ _ us hl => match us, hl with | [_], _ => rfl) fun cdv A outer s0 H E hr => (gs_cons (gs_par3 1 2 3 (ge_callT cs_int (ga_cons (ge_var 0) ga_nil) (n_int T)) ge_int ge_int rfl sc__law_parts_of.nd) (gs_cons (gs_while 400 (gt_cmp (os_gt hr.units) (ge_var 1) ge_int (nomark _)) (gs_cons (gs_set 4 ge_int sc__law_parts_of.nd) (gs_cons (gs_while 400 (gt_cmp (os_eq hr.units) (ge_op os_mod (ge_var 1) (ge_var 3)) ge_int (nomark _)) (gs_one (gs_par 1 4 (ge_op os_div (ge_var 1) (ge_var 3)) (ge_op os_add (ge_var 4) ge_int) rfl sc__law_parts_of.nd)) PassesOwn.never) (gs_cons (gs_if (gt_cmp (os_gt hr.units) (ge_var 4) ge_int (nomark _)) (gs_cons (gs_if (gt_w (gw_or (gt_cmp (os_ne hr.units) (ge_var 4) (ge_if (gt_cmp (os_eq hr.units) (ge_var 3) ge_int (nomark _)) ge_int ge_int) (nomark _)) (gw_or1 (gt_cmp (os_eq hr.units) (ge_op os_mod (ge_var 3) ge_int) ge_int (nomark _))))) (gs_one (gs_ret ge_int)) gs_nil) (gs_one (gs_set 2 (ge_op os_add (ge_var 2) ge_int) sc__law_parts_of.nd))) gs_nil) (gs_one (gs_set 3 (ge_op os_add (ge_var 3) ge_int) sc__law_parts_of.nd))))) PassesOwn.never) (gs_one (gs_retV 2))))) (T.glo 52) (T.kpg 52)).weaken fun ws r h => weak__law_parts_of ws r (strict_ok _ ws r h)
theorem sc__law_pairs : FnScope ["_law_conductor", "_law_found", "_law_a", "_law_left", "_law_root_here"] ["_law_conductor"] (defScope (top 131)) := ⟨rfl, rfl, rfl, by decide +kernel, rfl, by decide +kernel, by decide +kernel⟩
theorem cal__law_pairs (T : Tx K mg base) : Cal P w K mg base 2 "_law_pairs" 1 m__law_pairs := by
  obtain ⟨fd, F⟩ := T.df 62 d__law_pairs rfl
  exact (show Cal P w K mg base 2 "_law_pairs" 1 o__law_pairs from cal_mk (fn_mk (N := ["_law_conductor", "_law_found", "_law_a", "_law_left", "_law_root_here"]) (s := s__law_pairs) F sc__law_pairs rfl (fun _ _ _ _ _ _ us hl => match us, hl with | [_], _ => rfl) fun cdv A outer s0 H E hr => (gs_cons (gs_set 1 (ge_lst ga_nil) sc__law_pairs.nd) (gs_cons (gs_for (gi_range2 (ge_neg ge_int) ge_int (n_range T)) (gg_name 2 sc__law_pairs.nd) (gs_cons (gs_set 3 (ge_op os_sub (ge_op os_mul ge_int (ge_var 0)) (ge_op os_mul (ge_op os_mul ge_int (ge_var 2)) (ge_var 2))) sc__law_pairs.nd) (gs_cons (gs_set 4 (ge_call (cal__law_root T) hr (ga_cons (ge_callB (cs_max2 rfl) (ga_cons ge_int (ga_cons (ge_var 3) ga_nil)) (n_max T)) ga_nil) (lenOk_cons lenOk_nil)) sc__law_pairs.nd) (gs_one (gs_if (gt_w (gw_and (gt_cmp os_ge (ge_var 3) ge_int (nomark _)) (gw_and (gt_cmp (os_eq hr.units) (ge_op os_mul (ge_var 4) (ge_var 4)) (ge_var 3) (nomark _)) (gw_and1 (gt_cmp (os_eq hr.units) (ge_op os_mod (ge_callT cs_int (ga_cons (ge_op os_add (ge_var 4) (ge_op os_mul ge_int (ge_var 2))) ga_nil) (n_int T)) ge_int) ge_int (nomark _)))))) (gs_one (gs_extend 1 (ge_lst (ga_cons (ge_tup (ga_cons (ge_var 2) (ga_cons (ge_op os_div (ge_op os_add (ge_op os_mul ge_int (ge_var 2)) (ge_var 4)) ge_int) ga_nil))) (ga_cons (ge_tup (ga_cons (ge_var 2) (ga_cons (ge_op os_div (ge_op os_sub (ge_op os_mul ge_int (ge_var 2)) (ge_var 4)) ge_int) ga_nil))) ga_nil))))) gs_nil)))) rfl PassesOwn.never) (gs_one (gs_retV 1))))) (T.glo 53) (T.kpg 53)).weaken (strict_ok _)
theorem sc__law_is_right : FnScope ["_law_conductor", "_law_due", "_law_turn", "_law_rows", "_law_form", "_law_forms", "_law_own", "_law_told", "_law_parts", "_law_a", "_law_b"] ["_law_conductor"] (defScope (top 132)) := ⟨rfl, rfl, rfl, by decide +kernel, rfl, by decide +kernel, by decide +kernel⟩
theorem cal__law_is_right (T : Tx K mg base) : Cal P w K mg base 11 "_law_is_right" 1 m__law_is_right := by
  obtain ⟨fd, F⟩ := T.df 63 d__law_is_right rfl
  exact cal_mk (fn_mk (N := ["_law_conductor", "_law_due", "_law_turn", "_law_rows", "_law_form", "_law_forms", "_law_own", "_law_told", "_law_parts", "_law_a", "_law_b"]) (s := s__law_is_right) F sc__law_is_right rfl (fun _ _ _ _ _ _ us hl => match us, hl with | [_], _ => rfl) fun cdv A outer s0 H E hr => (gs_cons (gs_par 7 8 (ge_call (cal_square_fields T) hr (ga_cons (ge_var 0) ga_nil) (lenOk_cons lenOk_nil)) (ge_call (cal__law_parts_of T) hr (ga_cons (ge_var 0) ga_nil) (lenOk_cons lenOk_nil)) rfl sc__law_is_right.nd) (gs_cons (gs_set 1 ge_int sc__law_is_right.nd) (gs_cons (gs_for (gi_range1 (ge_var 8) (n_range T)) (gg_name 2 sc__law_is_right.nd) (gs_one (gs_set 1 (ge_if (gt_cmp (os_gt hr.units) (ge_var 1) ge_int (nomark _)) (ge_op os_mul ge_int (ge_var 1)) ge_int) sc__law_is_right.nd)) rfl PassesOwn.never) (gs_cons (gs_if (gt_w (gw_or (gt_not (gt_val (ge_isB .tuple (ge_var 7) (n_isinstance T) (n_tuple T) rfl))) (gw_or1 (gt_cmp (os_ne hr.units) (ge_callB cs_len (ga_cons (ge_var 7) ga_nil) (n_len T)) (ge_var 1) (nomark _))))) (gs_one (gs_ret ge_bl)) gs_nil) (gs_cons (gs_setLc 3 (own := [("_law_form", 4)]) (gc_tup (ge_var 7)) (ev_name (by decide)) (fun _ _ _ _ _ => pg_name (i := 4) sc__law_is_right.nd rfl (Or.inl rfl) (Or.inr rfl)) (fun _ _ _ _ _ => gts_nil) (fun _ _ _ _ _ => (ge_prop .fm (ge_var 4) (cls_fm T) (prop_Form_coefficients T) hr)) rfl sc__law_is_right.nd (show BlkOk ["_law_conductor", "_law_due", "_law_turn", "_law_rows", "_law_form", "_law_forms", "_law_own", "_law_told", "_law_parts", "_law_a", "_law_b"] (defScope (top 132)) _ [("_law_form", 4)] from blkOk_by (by decide +kernel)) rfl) (gs_cons (gs_if (gt_cmp (os_ne hr.units) (ge_var 3) (ge_callB (cs_sorted rfl hr.units) (ga_cons (ge_callT (cs_set rfl hr.units) (ga_cons (ge_var 3) ga_nil) (n_set T)) ga_nil) (n_sorted T)) (nomark _)) (gs_one (gs_ret ge_bl)) gs_nil) (gs_cons (gs_for (gi_tup (ge_var 7)) (gg_name 4 sc__law_is_right.nd) (gs_cons (gs_if (gt_w (gw_or (gt_cmp (os_ne hr.units) (ge_prop .fm (ge_var 4) (cls_fm T) (prop_Form_discriminant T) hr) (ge_op os_mul (ge_var 0) (ge_var 0)) (nomark _)) (gw_or (gt_not (gt_val (ge_call (cal_is_least T) hr (ga_cons (ge_var 4) ga_nil) (lenOk_cons lenOk_nil)))) (gw_or1 (gt_cmp (os_ne hr.units) (ge_meth0 .fm (ge_var 4) (cls_fm T) (meth_Form_roots T) hr) (ge_tup ga_nil) (nomark _)))))) (gs_one (gs_ret ge_bl)) gs_nil) (gs_one (gs_if (gt_w (gw_or (gt_not (gt_val (ge_call (cal_is_greatest T) hr (ga_cons (ge_var 4) ga_nil) (lenOk_cons lenOk_nil)))) (gw_or1 (gt_not (gt_val (ge_call (cal_is_turning T) hr (ga_cons (ge_var 4) ga_nil) (lenOk_cons lenOk_nil))))))) (gs_one (gs_ret ge_bl)) gs_nil))) rfl PassesOwn.never) (gs_cons (gs_setLc 5 (own := [("_law_a", 9), ("_law_b", 10)]) (gc_list (ge_call (cal__law_pairs T) hr (ga_cons (ge_var 0) ga_nil) (lenOk_cons lenOk_nil))) (ev_pair (by decide) (by decide)) (fun _ _ _ _ _ => pg_tup rfl (pgs_cons (pg_name (i := 9) sc__law_is_right.nd rfl (Or.inl rfl) (Or.inr rfl)) (pgs_cons (pg_name (i := 10) sc__law_is_right.nd rfl (Or.inl rfl) (Or.inr rfl)) pgs_nil))) (fun _ _ _ _ _ => gts_nil) (fun _ _ _ _ _ => (ge_make .fm (mak_Form T) (mg_Form T) hr (ga_cons (ge_call (cal__law_turning T) hr (ga_cons (ge_var 9) (ga_cons (ge_var 10) ga_nil)) (lenOk_cons (lenOk_cons lenOk_nil))) ga_nil) (lenOk_cons lenOk_nil))) rfl sc__law_is_right.nd (show BlkOk ["_law_conductor", "_law_due", "_law_turn", "_law_rows", "_law_form", "_law_forms", "_law_own", "_law_told", "_law_parts", "_law_a", "_law_b"] (defScope (top 132)) _ [("_law_a", 9), ("_law_b", 10)] from blkOk_by (by decide +kernel)) rfl) (gs_cons (gs_setLc 6 (own := [("_law_form", 4)]) (gc_list (ge_var 5)) (ev_name (by decide)) (fun _ _ _ _ _ => pg_name (i := 4) sc__law_is_right.nd rfl (Or.inl rfl) (Or.inr rfl)) (fun _ _ _ _ _ => gts_one (gt_w (gw_and (gt_cmp (os_eq hr.units) (ge_meth0 .fm (ge_var 4) (cls_fm T) (meth_Form_roots T) hr) (ge_tup ga_nil) (nomark _)) (gw_and1 (gt_val (ge_call (cal_is_greatest T) hr (ga_cons (ge_var 4) ga_nil) (lenOk_cons lenOk_nil))))))) (fun _ _ _ _ _ => (ge_prop .fm (ge_call (cal_least_form T) hr (ga_cons (ge_var 4) ga_nil) (lenOk_cons lenOk_nil)) (cls_fm T) (prop_Form_coefficients T) hr)) rfl sc__law_is_right.nd (show BlkOk ["_law_conductor", "_law_due", "_law_turn", "_law_rows", "_law_form", "_law_forms", "_law_own", "_law_told", "_law_parts", "_law_a", "_law_b"] (defScope (top 132)) _ [("_law_form", 4)] from blkOk_by (by decide +kernel)) rfl) (gs_one (gs_ret (ge_cmp (os_eq hr.units) (ge_callB (cs_sorted rfl hr.units) (ga_cons (ge_callT (cs_set rfl hr.units) (ga_cons (ge_var 6) ga_nil) (n_set T)) ga_nil) (n_sorted T)) (ge_var 3) (nomark _)))))))))))))) (T.glo 54) (T.kpg 54)
end
end F79
set_option Elab.async false
set_option linter.all false
set_option maxRecDepth 100000
set_option maxHeartbeats 4000000
/-! Drw: what is drawn lies in 1 .. 300. -/
namespace F79
open PySem PySem.Spec PyProof.Rows L2 DL
def CK (a b c : Int) : List V := [.int a, .int b, .int c]
def Bb (b c : Int) : Prop := 0 ≤ b ∧ b < 2305843009213693951 ∧ 0 ≤ c ∧ c ≤ 100
def spTap : Sp := fun vs H Q _ => ∃ p n a b c, vs = [.ref p, .int n] ∧ 1 ≤ n ∧ n ≤ 1000 ∧ H p = some (.lst (CK a b c)) ∧ Bb b c ∧
  ∀ r a' c', 0 ≤ r → r < n → 0 ≤ c' → c' ≤ c + 1 → Q (.int r) (upd H p (.lst (CK a' b c')))
section
variable {P : Program} {w : World} {K : PySem.W.Frag} {mg : Str → Option Value} {base : Heap}
theorem upd_twice {H : Hp} {p : Addr} {o u : HO} : upd (upd H p o) p u = upd H p u := upd_upd
theorem ok_tap (T : Tx K mg base) : FnR P w K mg base CX0 1 (plA K (.g "_law_tap")) spTap := by
  obtain ⟨fd, F⟩ := T.df 65 d__law_tap rfl
  have S : FnScope ["_law_cask_here", "_law_many", "_law_one_here", "_law_two", "_law_found"] ["_law_cask_here", "_law_many"] (defScope (top 126)) := ⟨rfl, rfl, rfl, by decide +kernel, rfl, by decide +kernel, by decide +kernel⟩
  refine fn_own F S (fun vs H Q E h => ?_) (fun _ _ _ _ _ _ us hl => match us, hl with | [_, _], _ => rfl) fun cdv A outer s0 H E vs Q hr h => ?_
  · obtain ⟨p, n, a, b, c, rfl, _⟩ := h
    rfl
  · obtain ⟨p, n, a, b, c, rfl, n1, n2, hp, ⟨b1, b2, c1, c2⟩, q⟩ := h
    have L : SqL K H p (CK a b c) := SqL.of hp
    refine wss_cons (ws_if (k := decide (0 < a)) (fun Q' q' => wt_gt (wi_ix (fun Q q => we_var 0 rfl q) wi_int L rfl) wi_int q') (fun ha => ?_) (fun ha => ?_))
    · refine wss_cons (ws_set 4 S.nd (wi_mod (wi_toInt (wi_ix (fun Q q => we_var 0 rfl q) wi_int L rfl) (n_int T)) (wi_var 1 rfl) (by omega) _ ?_))
      refine wss_cons (ws_put (j := 0) (wi_div (wi_ix (fun Q q => we_var 0 rfl q) wi_int L rfl) (wi_var 1 rfl) ⟨by omega, by omega⟩) (fun Q q => we_var 0 rfl q) wi_int hp rfl ?_)
      refine wss_cons (ws_ret (we_var 4 rfl ?_))
      exact q _ (a / n) c (Int.emod_nonneg _ (by omega)) (Int.emod_lt_of_pos _ (by omega)) c1 (by omega)
    · refine wss_nil ?_
      refine wss_cons (ws_put (j := 2) (wi_add (wi_ix (fun Q q => we_var 0 rfl q) wi_int L rfl) wi_int) (fun Q q => we_var 0 rfl q) wi_int hp rfl ?_)
      have L2 : SqL K (upd H p (.lst (CK a b (c + 1)))) p (CK a b (c + 1)) := SqL.of upd_same
      refine wss_cons (ws_set 2 S.nd (wi_use (wi_mod (wi_toInt (wi_add (wi_ix (fun Q q => we_var 0 rfl q) wi_int L2 rfl) (wi_mul wi_int (wi_ix (fun Q q => we_var 0 rfl q) wi_int L2 rfl) (.inl ⟨by decide, by decide⟩))) (n_int T)) wi_int (by decide)) ?_))
      generalize ho : (b + 32452843 * (c + 1)) % 2305843009213693921 = o
      have o1 : 0 ≤ o := by rw [← ho]; exact Int.emod_nonneg _ (by decide)
      have o2 : o < 2305843009213693921 := by rw [← ho]; exact Int.emod_lt_of_pos _ (by decide)
      refine wss_cons (ws_set 3 S.nd (wi_use (wi_add (wi_add (wi_mul (wi_mod (wi_toInt (wi_mul (wi_var 2 rfl) (wi_var 2 rfl) (.inl ⟨by omega, by omega⟩)) (n_int T)) wi_int (by decide)) wi_int (.inr ⟨by decide, by decide⟩)) (wi_var 2 rfl)) (wi_mul wi_int (wi_ix (fun Q q => we_var 0 rfl q) wi_int L2 rfl) (.inl ⟨by decide, by decide⟩))) ?_))
      refine wss_cons (ws_ret (wi_use (wi_mod (wi_toInt (wi_div (wi_var 3 rfl) wi_int ⟨by decide, by decide⟩) (n_int T)) (wi_var 1 rfl) (by omega)) ?_))
      exact q _ a (c + 1) (Int.emod_nonneg _ (by omega)) (Int.emod_lt_of_pos _ (by omega)) (by omega) (by omega)
theorem sc_one : FnScope ["_law_cask_here", "_law_items"] ["_law_cask_here", "_law_items"] (defScope (top 127)) := ⟨rfl, rfl, rfl, by decide +kernel, rfl, by decide +kernel, by decide +kernel⟩
theorem sc_drawn : FnScope ["_law_cask_here"] ["_law_cask_here"] (defScope (top 133)) := ⟨rfl, rfl, rfl, by decide +kernel, rfl, by decide +kernel, by decide +kernel⟩
theorem sc_cask : FnScope ["_law_script", "_law_spot", "_law_cell", "_law_great", "_law_mixed"] ["_law_script", "_law_spot"] (defScope (top 125)) := ⟨rfl, rfl, rfl, by decide +kernel, rfl, by decide +kernel, by decide +kernel⟩
def spOne : Sp := fun vs H Q _ => ∃ p l ks a b c, vs = [.ref p, .ref l] ∧ l ≠ p ∧ H l = some (.lst (List.map V.int ks)) ∧ 1 ≤ ks.length ∧ ks.length ≤ 1000 ∧ H p = some (.lst (CK a b c)) ∧ Bb b c ∧
  ∀ k a' c', k ∈ ks → 0 ≤ c' → c' ≤ c + 1 → Q (.int k) (upd H p (.lst (CK a' b c')))
theorem atI_ints {ks : List Int} {r : Int} (h0 : 0 ≤ r) (h1 : r < ks.length) : ∃ k, k ∈ ks ∧ atI (ks.map V.int) r = some (.int k) := by
  have hl : r.toNat < ks.length := by omega
  refine ⟨ks[r.toNat], List.getElem_mem hl, ?_⟩
  unfold atI ixN
  rw [List.length_map, if_pos h0, if_pos h1]
  show (ks.map V.int)[r.toNat]? = _
  rw [List.getElem?_map, List.getElem?_eq_getElem hl]
  rfl
theorem ok_one (T : Tx K mg base) : FnR P w K mg base CX0 2 (plA K (.g "_law_one")) spOne := by
  obtain ⟨fd, F⟩ := T.df 66 d__law_one rfl
  refine fn_own F sc_one (fun vs H Q E h => ?_) (fun _ _ _ _ _ _ us hl => match us, hl with | [_, _], _ => rfl) fun cdv A outer s0 H E vs Q hr h => ?_
  · obtain ⟨p, l, ks, a, b, c, rfl, _⟩ := h
    rfl
  · obtain ⟨p, l, ks, a, b, c, rfl, ne, hl, k1, k2, hp, hb, q⟩ := h
    refine wss_cons (ws_ret ⟨_, pe_ix ix_seq pe_we pe_we (by intro _ _; rfl), we_var 1 rfl (we_callF2 (ok_tap T) (T.glo 56) (T.kpg 56) hr (we_var 0 rfl (wi_use (wi_len (fun Q q => we_var 1 rfl q) (SqL.of hl) (n_len T)) ?_)))⟩)
    rw [List.length_map]
    refine ⟨p, ks.length, a, b, c, rfl, by omega, by omega, hp, hb, fun r a' c' r0 r1 c0 c1 => ?_⟩
    obtain ⟨k, hk, hat⟩ := atI_ints r0 r1
    exact .inl ⟨l, _, r, _, rfl, rfl, SqL.of (by rw [upd_ne ne]; exact hl), hat, q k a' c' hk c0 c1⟩
def Fm (p : Addr) (H H' : Hp) : Prop := ∀ x o, x ≠ p → H x = some o → H' x = some o
def spDrawn : Sp := fun vs H Q _ => ∃ p a b c, vs = [.ref p] ∧ H p = some (.lst (CK a b c)) ∧ Bb b c ∧ c ≤ 50 ∧
  ∀ d H' a' c', 1 ≤ d → d ≤ 300 → H' p = some (.lst (CK a' b c')) → 0 ≤ c' → c' ≤ c + 10 → Fm p H H' → Q (.int d) H'
def items : List Int := [63, 91, 117, 133, 171, 217, 247, 259, 273, 279, 49, 81, 21, 189]
theorem items_in : ∀ k ∈ items, 1 ≤ k ∧ k ≤ 300 := by decide
theorem ok_drawn (T : Tx K mg base) : FnR P w K mg base CX0 3 (plA K (.g "_law_drawn")) spDrawn := by
  obtain ⟨fd, F⟩ := T.df 67 d__law_drawn rfl
  refine fn_own F sc_drawn (fun vs H Q E h => ?_) (fun _ _ _ _ _ _ us hl => match us, hl with | [_], _ => rfl) fun cdv A outer s0 H E vs Q hr h => ?_
  · obtain ⟨p, a, b, c, rfl, _⟩ := h
    rfl
  · obtain ⟨p, a, b, c, rfl, hp, ⟨b1, b2, c1, c2⟩, c3, q⟩ := h
    refine wss_cons (ws_ret (we_callF2 (ok_one T) (T.glo 57) (T.kpg 57) hr (we_var 0 rfl ⟨_, pe_lst (pa_cons pe_we (pa_cons pe_we pa_nil)), ⟨_, pe_op op_add pe_we pe_we, wi_use wi_int (we_callF2 (ok_tap T) (T.glo 56) (T.kpg 56) hr (we_var 0 rfl (wi_use wi_int ?_)))⟩⟩)))
    refine ⟨p, 300, a, b, c, rfl, by decide, by decide, hp, ⟨b1, b2, c1, c2⟩, fun r a1 e1 r0 r1 e1a e1b => ⟨1, r, rfl, rfl, ?_⟩⟩
    refine we_callF2 (ok_one T) (T.glo 57) (T.kpg 57) hr (we_var 0 rfl ⟨_, pe_lst (pa_cons pe_int (pa_cons pe_int (pa_cons pe_int (pa_cons pe_int (pa_cons pe_int (pa_cons pe_int (pa_cons pe_int (pa_cons pe_int (pa_cons pe_int (pa_cons pe_int (pa_cons pe_int (pa_cons pe_int (pa_cons pe_int (pa_cons pe_int pa_nil)))))))))))))), ?_⟩)
    refine ⟨by decide, fun l2 h2 => ?_⟩
    have n2 : l2 ≠ p := fun z => by rw [z, upd_same] at h2; cases h2
    refine ⟨p, l2, items, a1, b, e1, rfl, n2, upd_same, by decide, by decide, by rw [upd_ne (Ne.symm n2), upd_same], ⟨b1, b2, e1a, by omega⟩, fun k a2 e2 hk e2a e2b => ?_⟩
    refine ⟨(show (2 : Nat) ≤ sizeLine by decide), fun l3 h3 => ?_⟩
    have n3 : l3 ≠ p := fun z => by rw [z, upd_same] at h3; cases h3
    refine ⟨p, l3, [1 + r, k], a2, b, e2, rfl, n3, upd_same, (show 1 ≤ (2 : Nat) by decide), (show (2 : Nat) ≤ 1000 by decide), by rw [upd_ne (Ne.symm n3), upd_same], ⟨b1, b2, e2a, by omega⟩, fun d a3 e3 hd e3a e3b => ?_⟩
    have hk2 := items_in k hk
    have hd2 : 1 ≤ d ∧ d ≤ 300 := by
      rcases List.mem_cons.mp hd with z | z
      · omega
      · rw [List.mem_singleton.mp z]
        exact hk2
    refine q d _ a3 e3 hd2.1 hd2.2 upd_same e3a (by omega) fun x o nx hx => ?_
    have m2 : x ≠ l2 := fun z => by
      rw [← z, upd_ne nx, hx] at h2
      cases h2
    have m3 : x ≠ l3 := fun z => by
      rw [← z, upd_ne nx, upd_ne m2, upd_ne nx, hx] at h3
      cases h3
    rw [upd_ne nx, upd_ne m3, upd_ne nx, upd_ne m2, upd_ne nx]
    exact hx
def spCask (K : PySem.W.Frag) : Sp := fun vs H Q _ => ∃ (s : Addr) (ns : List Int) (t : Int), vs = [.ref s, .int t] ∧ SqL K H s (ns.map V.int) ∧ 0 ≤ t ∧ t ≤ 2 ∧
  ∀ p H' a b, H p = none → (∀ x o, H x = some o → H' x = some o) → H' p = some (.lst (CK a b 0)) → 0 ≤ b → b < 2305843009213693951 → Q (.ref p) H'
theorem cut_ints (ns : List Int) (lo hi : Option Int) : ∃ ms : List Int, cutV (ns.map V.int) lo hi = ms.map V.int := by
  unfold cutV
  exact ⟨_, by rw [← List.map_drop, ← List.map_take]⟩
theorem ok_cask (T : Tx K mg base) : FnR P w K mg base CX0 1 (plA K (.g "_law_cask")) (spCask K) := by
  obtain ⟨fd, F⟩ := T.df 64 d__law_cask rfl
  refine fn_own F sc_cask (fun vs H Q E h => ?_) (fun _ _ _ _ _ _ us hl => match us, hl with | [_, _], _ => rfl) fun cdv A outer s0 H E vs Q hr h => ?_
  · obtain ⟨s, ns, t, rfl, _⟩ := h
    rfl
  · obtain ⟨s, ns, t, rfl, hs, t0, t1, q⟩ := h
    have rest : ∀ (H1 : Hp) (cell : Int), (∀ x o, H x = some o → H1 x = some o) → wss (cxOf CX0 P w K mg base ["_law_script", "_law_spot", "_law_cell", "_law_great", "_law_mixed"] "_law_cask" (defScope (top 125)) (plA K (.g "_law_cask")) cdv A outer s0 H E).nox ((defBody (top 125)).drop 1) { nx := fun _ H' => Q .non H', rt := Q } ((L2.start ["_law_script", "_law_spot", "_law_cell", "_law_great", "_law_mixed"] [.ref s, .int t]).set 2 (some (.int cell))) H1 := fun H1 cell k => by
      refine wss_cons (ws_set 3 sc_cask.nd (wi_use (wi_mod (wi_toInt (wi_abs (wi_var 2 rfl) (n_abs T)) (n_int T)) (wi_powN (wi_pow wi_int wi_int ⟨by decide, by decide, by decide⟩) wi_int ⟨by decide, by decide +kernel⟩) (by decide +kernel)) ?_))
      generalize (if cell < 0 then -cell else cell) % ((10 : Int) ^ (57 : Int).toNat) ^ (8 : Int).toNat = great
      refine wss_cons (ws_set 4 sc_cask.nd (wi_use (wi_mod (wi_toInt (wi_add (wi_add (wi_add (wi_mul (wi_mod (wi_var 3 rfl) wi_int (by decide)) wi_int (.inr ⟨by decide, by decide⟩)) (wi_mul wi_int (wi_var 1 rfl) (.inl ⟨by decide, by decide⟩))) (wi_mul wi_int (wi_bToInt (wb_lt (wi_var 2 rfl) wi_int) (n_int T)) (.inl ⟨by decide, by decide⟩))) wi_int) (n_int T)) wi_int (by decide)) ?_))
      refine wss_cons (ws_ret ⟨_, pe_lst (pa_cons pe_we (pa_cons pe_we (pa_cons pe_int pa_nil))), wi_use (wi_max rfl wi_int (wi_sub (wi_var 3 rfl) (wi_pow wi_int wi_int ⟨by decide, by decide, by decide⟩)) (n_max T)) (wi_use (wi_var 4 rfl) ⟨(show (3 : Nat) ≤ sizeLine by decide), fun p hp => ?_⟩)⟩)
      have hp0 : H p = none := by
        cases z : H p with
        | none => rfl
        | some o =>
          rw [k p o z] at hp
          cases hp
      exact q p _ _ _ hp0 (fun x o hx => by rw [upd_ne (ne_of_none (k x o hx) hp)]; exact k x o hx) upd_same (Int.emod_nonneg _ (by decide)) (Int.emod_lt_of_pos _ (by decide))
    refine wss_cons (ws_set 2 sc_cask.nd ⟨_, pe_ifExp pt_wt pe_we pe_we, wt_lt (wi_var 1 rfl) (wi_len (fun Q q => we_var 0 rfl q) hs (n_len T)) ?_⟩)
    by_cases hc : t < ((ns.map V.int).length : Nat)
    · rw [decide_eq_true hc, if_pos rfl]
      rw [List.length_map] at hc
      obtain ⟨k, _, hk⟩ := atI_ints t0 hc
      exact wi_use (wi_toInt (wi_ix (fun Q q => we_var 0 rfl q) (wi_var 1 rfl) hs hk) (n_int T)) (rest H k fun x o hx => hx)
    · rw [decide_eq_false hc, if_neg Bool.false_ne_true]
      refine ⟨_, pe_op op_add pe_we pe_we, wi_use (wi_add (wi_mul wi_int (wi_var 1 rfl) (.inl ⟨by decide, by decide⟩)) wi_int) ⟨_, pe_op op_mod pe_we pe_we, we_callT call_int1 (we_callB (cr_sum rfl) ⟨_, pe_slice sl_list pe_we po_none (po_some pe_we), we_var 0 rfl (wi_use wi_int ⟨1, rfl, s, _, rfl, hs, fun l hl => ?_⟩)⟩ (n_sum T)) (n_int T)⟩⟩
      obtain ⟨ms, em⟩ := cut_ints ns none (some 1)
      rw [em]
      exact ⟨l, ms, rfl, SqL.of upd_same, .inl ⟨_, rfl, wi_use wi_int ⟨_, _, rfl, rfl, (show (0 : Int) < 1000037 by decide), _, _, rfl, rfl, rest _ _ fun x o hx => by rw [upd_ne (ne_of_none hx hl)]; exact hx⟩⟩⟩
end
end F79
set_option Elab.async false
set_option linter.all false
set_option maxRecDepth 100000
set_option maxHeartbeats 4000000
/-! Lw: the law itself, from what the mirrors say at 1 .. 300. -/
set_option pp.maxSteps 300
set_option pp.deepTerms false
set_option pp.deepTerms.threshold 4
namespace F79
open PySem PySem.Spec PyProof.Rows L2 DL
def s_final : M W := (mOp fEq (mLc (itT (mTup (mCons (mC (.d (.int 1))) (mCons (mC (.d (.int 3))) (mCons (mC (.d (.int 7))) (mCons (mC (.d (.int 9))) (mCons (mC (.d (.int 49))) (mCons (mC (.d (.int 63))) (mCons (mC (.d (.int 91))) mNil))))))))) [3] (gNm 3) mYes (mCall bLen (mCons (mCall m_square_fields (mCons (mVar 3) mNil)) mNil))) (mLst (mCons (mC (.d (.int 0))) (mCons (mC (.d (.int 0))) (mCons (mC (.d (.int 1))) (mCons (mC (.d (.int 1))) (mCons (mC (.d (.int 0))) (mCons (mC (.d (.int 2))) (mCons (mC (.d (.int 2))) mNil)))))))))
/-- what is left to be computed -/
structure Evals : Prop where
  right : ∀ c : Int, 1 ≤ c → c ≤ 300 → m__law_is_right [.d (.int c)] = some (.d (.bl true))
  final : s_final [none, none, none, none] = some (.d (.bl true))
def spLaw (K : PySem.W.Frag) : Sp := fun vs H Q _ => ∃ (s : Addr) (ns : List Int), vs = [.ref s] ∧ SqL K H s (ns.map V.int) ∧ Tabs K H ∧ ∀ H', Q (.bl true) H'
def retE (s : Stmt) : Expr := match s with
  | .Return (some e) _ => e
  | _ => .Constant .none 0 ⟨0, 0, 0, 0⟩
theorem sc_law : FnScope ["_law_script", "_law_spot", "_law_cask_here", "_law_number"] ["_law_script"] (defScope (top 134)) := ⟨rfl, rfl, rfl, by decide +kernel, rfl, by decide +kernel, by decide +kernel⟩
theorem ex_fm {p : Addr} {H0 H H' : Hp} (e : Ex H0 H) (h0 : H0 p = none) (f : Fm p H H') : Ex H0 H' := fun a o ha => by
  have na : a ≠ p := ne_of_none ha h0
  rcases e a o ha with z | ⟨z1, ps, z2, z3⟩
  · exact .inl (f a o na z)
  · exact .inr ⟨z1, ps, f a _ na z2, z3⟩
section
variable {P : Program} {w : World} {K : PySem.W.Frag} {mg : Str → Option Value} {base : Heap}
theorem law_body (V_ : Evals) (T : Tx K mg base) (cdv : Value) (A : Around) (outer : List PySem.Env) (s0 : Shared) (H : Hp) (E : XK) (vs : List V) (Q : VK) (hr : Room 11 (A.deeper (envOfC "law" (defScope (top 134)) s0.heap.objs.size (plA K (.g "law")) cdv))) (h : spLaw K vs H Q E) :
    wss (cxOf CX0 P w K mg base ["_law_script", "_law_spot", "_law_cask_here", "_law_number"] "law" (defScope (top 134)) (plA K (.g "law")) cdv A outer s0 H E).nox (defBody (top 134)) { nx := fun _ H' => Q .non H', rt := Q } (L2.start ["_law_script", "_law_spot", "_law_cask_here", "_law_number"] vs) H := by
  obtain ⟨s, ns, rfl, hs, tb, q⟩ := h
  obtain ⟨fR, FR, mR, kR⟩ := (cal__law_is_right (P := P) (w := w) T).ex
  have ge : GE (cxOf CX0 P w K mg base ["_law_script", "_law_spot", "_law_cask_here", "_law_number"] "law" (defScope (top 134)) (plA K (.g "law")) cdv A outer s0 H E).nox (retE ((defBody (top 134)).getD 1 (.Pass ⟨0, 0, 0, 0⟩))) s_final := (ge_cmp (os_eq hr.units) (ge_lc (own := [("_law_number", 3)]) (gc_tup (ge_tup (ga_cons ge_int (ga_cons ge_int (ga_cons ge_int (ga_cons ge_int (ga_cons ge_int (ga_cons ge_int (ga_cons ge_int ga_nil))))))))) (ev_name (by decide)) (fun _ _ _ _ _ => pg_name (i := 3) sc_law.nd rfl (Or.inl rfl) (Or.inr rfl)) (fun _ _ _ _ _ => gts_nil) (fun _ _ _ _ _ => (ge_callB cs_len (ga_cons (ge_call (cal_square_fields T) hr (ga_cons (ge_var 3) ga_nil) (lenOk_cons lenOk_nil)) ga_nil) (n_len T))) rfl sc_law.nd (show BlkOk ["_law_script", "_law_spot", "_law_cask_here", "_law_number"] (defScope (top 134)) _ [("_law_number", 3)] from blkOk_by (by decide +kernel))) (ge_lst (ga_cons ge_int (ga_cons ge_int (ga_cons ge_int (ga_cons ge_int (ga_cons ge_int (ga_cons ge_int (ga_cons ge_int ga_nil)))))))) (nomark _))
  obtain ⟨tG, pG, evG⟩ := ge.ex
  refine wss_cons ⟨_, ps_for PassesOwn.never rfl (pi_range1 rfl (n_range T) (pa_cons pe_we pa_nil)) (pg_name (i := 1) sc_law.nd rfl (Or.inl rfl)) pss_wss, wi_use (wi_max rfl wi_int (wi_min rfl wi_int (wi_len (fun Q q => we_var 0 rfl q) hs (n_len T)) (n_min T)) (n_max T)) ?_⟩
  have bj : ∃ j : Int, (if (if (((ns.map V.int).length : Nat) : Int) < 2 then (((ns.map V.int).length : Nat) : Int) else 2) > 1 then (if (((ns.map V.int).length : Nat) : Int) < 2 then (((ns.map V.int).length : Nat) : Int) else 2) else 1) = j ∧ 1 ≤ j ∧ j ≤ 2 := by
    refine ⟨_, rfl, ?_, ?_⟩
    · split <;> omega
    · split
      · split <;> omega
      · omega
  obtain ⟨j, ej, j1, j2⟩ := bj
  refine ⟨j, by rw [← ej], by omega, by omega, ?_⟩
  refine ⟨fun i m σ' H' => m = j.toNat - i ∧ i ≤ j.toNat ∧ σ'[0]? = some (some (.ref s)) ∧ σ'.length = 4 ∧ Ex H H', ⟨j.toNat, by simp, Nat.zero_le _, rfl, rfl, Ex.refl H⟩, ?_⟩
  rintro i m σ' H2 ⟨rfl, hi, s1, sl, e2⟩
  by_cases hlt : i < j.toNat
  · refine .inr ⟨hlt, fun σ'' H'' => σ''[0]? = some (some (.ref s)) ∧ σ''.length = 4 ∧ Ex H H'', fun σ'' H'' ⟨x1, x2, x3⟩ => ⟨_, by omega, rfl, hlt, x1, x2, x3⟩, fun x H' y => ?_⟩
    obtain ⟨rfl, rfl⟩ := y
    show wss _ _ _ (σ'.set 1 _) _
    refine wss_cons (ws_set 2 sc_law.nd (we_callF2 (ok_cask T) (T.glo 55) (T.kpg 55) hr (we_var 0 (by rw [List.getElem?_set_ne (by decide)]; exact s1) (we_var 1 (List.getElem?_set_self (by omega)) ?_))))
    refine ⟨s, ns, _, rfl, e2.l hs, by omega, by omega, fun p H3 a b hp fr h3 b1 b2 => ?_⟩
    have e3 : Ex H H3 := e2.trans fun x o hx => .inl (fr x o hx)
    have hp0 : H p = none := e2.back hp
    have n2 : ((σ'.set 1 (some (V.int (0 + (i : Int))))).set 2 (some (.ref p)))[2]? = some (some (.ref p)) := List.getElem?_set_self (by rw [List.length_set]; omega)
    have n0 : ((σ'.set 1 (some (V.int (0 + (i : Int))))).set 2 (some (.ref p)))[0]? = some (some (.ref s)) := by
      rw [List.getElem?_set_ne (by decide), List.getElem?_set_ne (by decide)]
      exact s1
    have nl : ((σ'.set 1 (some (V.int (0 + (i : Int))))).set 2 (some (.ref p))).length = 4 := by rw [List.length_set, List.length_set]; exact sl
    refine (?_ : ∀ σ3 : L2.St, σ3[2]? = some (some (V.ref p)) → σ3[0]? = some (some (V.ref s)) → σ3.length = 4 → wss _ _ _ σ3 H3) _ n2 n0 nl
    clear n2 n0 nl
    intro σ3 n2 n0 nl
    have right : ∀ {px py pz : Pos} {pa pb : Pos} (Hc : Hp) (a c : Int) (Q' : VK), Ex H Hc → Hc p = some (.lst (CK a b c)) → 0 ≤ c → c ≤ 50 → (∀ H' a' c', Ex H H' → H' p = some (.lst (CK a' b c')) → 0 ≤ c' → c' ≤ c + 10 → Q' (.bl true) H') →
        we (cxOf CX0 P w K mg base ["_law_script", "_law_spot", "_law_cask_here", "_law_number"] "law" (defScope (top 134)) (plA K (.g "law")) cdv A outer s0 H E).nox (.Call (.Name "_law_is_right" px) [.Call (.Name "_law_drawn" py) [.Name "_law_cask_here" pz] [] pa] [] pb) σ3 Hc Q' := fun {px py pz pa pb} Hc a c Q' ec hc c0 c1 k => by
      refine we_callF FR mR kR hr (we_callF (ok_drawn T) (T.glo 58) (T.kpg 58) hr (we_var 2 n2 ?_))
      refine ⟨p, a, b, c, rfl, hc, ⟨b1, b2, c0, by omega⟩, c1, fun d H4 a4 c4 d1 d2 h4 c4a c4b f4 => ?_⟩
      have e4 := ex_fm ec hp0 f4
      refine spM_of (X := (cxOf CX0 P w K mg base ["_law_script", "_law_spot", "_law_cask_here", "_law_number"] "law" (defScope (top 134)) (plA K (.g "law")) cdv A outer s0 H E).nox) (n := 1) (ws := [.d (.int d)]) (E := E0) rfl (tb.ex e4) (by simp only [RepWs, RepW, Rep, and_true]) (V_.right d d1 d2) fun v H5 e5 r5 => ?_
      have ev : v = .bl true := rep_bl r5.1
      subst ev
      exact k H5 a4 c4 (e4.trans e5) (e5.at h4 fun _ z => nomatch z) c4a c4b
    refine wss_cons ⟨_, ps_if pt_wt pss_wss pss_wss, ?_⟩
    refine ⟨_, (pw_or (pt_not pt_wt) (pw_or1 (pt_not pt_wt))).pt, ?_⟩
    show wt _ _ σ3 H3 _
    refine ⟨_, pt_val pe_we (by intro _; rfl), ?_⟩
    show we _ _ σ3 H3 _
    refine right H3 a 0 _ e3 h3 (by decide) (by decide) fun H4 a4 c4 e4 h4 c4a c4b => ⟨true, rfl, ?_⟩
    show wt _ _ σ3 H4 _
    refine ⟨_, pt_val pe_we (by intro _; rfl), ?_⟩
    show we _ _ σ3 H4 _
    refine right H4 a4 c4 _ e4 h4 c4a (by omega) fun H5 a5 c5 e5 h5 c5a c5b => ⟨true, rfl, ?_⟩
    show wss _ _ _ σ3 H5
    exact wss_nil (wss_nil ⟨n0, nl, e5⟩)
  · have ei : i = j.toNat := by omega
    refine .inl ⟨by rw [ei]; exact Nat.le_refl _, ?_⟩
    have R : RE P w K H2 [none, none, none, none] σ' H2 := {
      ex := Ex.refl H2
      tab := tb.ex e2
      len := by rw [sl]; rfl
      get := fun i x hx => by
        rcases i with _ | _ | _ | _ | i <;> simp at hx
      base := fun i x hx => by
        rcases i with _ | _ | _ | _ | i <;> simp at hx
      sep := fun i k x y _ hx => by
        rcases i with _ | _ | _ | _ | i <;> simp at hx }
    refine wss_cons (ws_ret ⟨tG, pG, evG _ _ H2 σ' H2 _ V_.final R fun v H5 e5 r5 => ?_⟩)
    have ev : v = .bl true := rep_bl r5.1
    subst ev
    exact q H5
end
end F79
set_option Elab.async false
set_option linter.all false
set_option maxRecDepth 100000
set_option maxHeartbeats 4000000
/-! Hk: what is told. -/
namespace F79
open PySem PySem.Spec PyProof.Rows L2 DL
/-- what is told -/
structure SaysF (h : Heap) (K : PySem.W.Frag) : Prop where
  kin : K.In h
  fs : ∀ (i : Nat) (f : Fk), fsL[i]? = some f → f.ok K = true
  ds : ∀ (i : Nat) (d : Df), dsL[i]? = some d → ∃ fd, FunD K d.name d.qual d.params d.body d.scope [] [] (plA K d.pl) fd
  hd : ∀ p ∈ tf, PySem.W.codeHdIn K (He.cT K p).1 (He.cT K p).2 = true
  out : ∀ p ∈ tf, K.lookup (He.cT K p).2 = none
  empty : ∀ p ∈ tf, h.get? (He.cT K p).2 = some { cls := .none, data := .fields #[] }
theorem says_of {h : Heap} (e : obF h.get? = vlF) : SaysF h (frK h.get?) := by
  have e1 : okB h.get? (frK h.get?) = true := congrArg (fun z : Al => z.1) e
  have e2 : fnB (frK h.get?) = dsL.map Df.val := congrArg (fun z : Al => z.2) e
  obtain ⟨h1, h2⟩ := He.ba e1
  obtain ⟨h2, h3⟩ := He.ba h2
  have key : ∀ p ∈ tf, PySem.W.codeHdIn (frK h.get?) (He.cT (frK h.get?) p).1 (He.cT (frK h.get?) p).2 = true ∧ ∃ o, h.get? (He.cT (frK h.get?) p).2 = some o ∧ He.emptyTab o = true := fun p hp => by
    obtain ⟨h4, h5⟩ := He.ba (List.all_eq_true.mp h3 p hp)
    refine ⟨h4, ?_⟩
    cases q : h.get? (He.cT (frK h.get?) p).2 with
    | none =>
      rw [q] at h5
      cases h5
    | some o =>
      rw [q] at h5
      exact ⟨o, rfl, h5⟩
  refine ⟨He.frT_in, fun i f hi => List.all_eq_true.mp h1 f (List.mem_of_getElem? hi), fun i d hi => ?_, fun p hp => (key p hp).1, fun p hp => ?_, fun p hp => ?_⟩
  · have e3 : (fnB (frK h.get?))[i]? = (dsL.map Df.val)[i]? := by rw [e2]
    unfold fnB at e3
    rw [List.getElem?_map, List.getElem?_map, hi] at e3
    exact Df.funD (Option.some.inj e3) (List.all_eq_true.mp h2 d (List.mem_of_getElem? hi))
  · obtain ⟨_, o, q, z⟩ := key p hp
    exact He.frT_none q z
  · obtain ⟨_, o, q, z⟩ := key p hp
    rw [q, He.emptyTab_eq z]
def hk : PySem.W.Hook where
  α := Al
  obs := fun s => obF s.heap.get?
  val := fun _ => vlF
  says := fun _ h => ∃ K : PySem.W.Frag, SaysF h K
  of := fun _ _ e => ⟨_, says_of e⟩
  keeps := fun _ _ _ ⟨K, c⟩ k => ⟨K, ⟨PySem.W.Frag.In.keeps c.kin k, c.fs, c.ds, c.hd, c.out, fun p hp => k _ _ (c.empty p hp)⟩⟩
def ob (s : PySem.W.SharedT) : Al := obF (HandSHeadRun.getT s)
theorem ob_eq (s : PySem.W.SharedT) : ob s = hk.obs s.abs := by
  have e : HandSHeadRun.getT s = s.abs.heap.get? := funext (HandSHeadRun.getT_eq s)
  unfold ob
  rw [e]
  rfl
end F79
set_option Elab.async false
set_option linter.all false
set_option maxRecDepth 100000
set_option maxHeartbeats 0
/-! Ev: the mirrors at 1 .. 300. -/
namespace F79
open PySem PySem.Spec PyProof.Rows L2 DL
def yesW : Option W → Bool
  | some (.d (.bl b)) => b
  | _ => false
theorem yesW_ok {x : Option W} (h : yesW x = true) : x = some (.d (.bl true)) := by
  unfold yesW at h
  split at h
  · rw [h]
  · cases h
/-- f k .. f (k + n - 1) -/
def allFrom (f : Nat → Bool) (k : Nat) : Nat → Bool
  | 0 => true
  | n + 1 => match f k with
    | true => allFrom f (k + 1) n
    | false => false
theorem allFrom_ok {f : Nat → Bool} : ∀ {n k : Nat}, allFrom f k n = true → ∀ j, k ≤ j → j < k + n → f j = true
  | 0, k, _, j, h1, h2 => absurd h2 (by omega)
  | n + 1, k, h, j, h1, h2 => by
    unfold allFrom at h
    split at h
    · rename_i e
      by_cases q : j = k
      · rw [q]
        exact e
      · exact allFrom_ok h j (by omega) (by omega)
    · cases h
def okN (n : Nat) : Bool := yesW (m__law_is_right [.d (.int (.ofNat n))])
theorem ev_0 : allFrom okN 1 18 = true := by decide +kernel
theorem ev_1 : allFrom okN 19 18 = true := by decide +kernel
theorem ev_2 : allFrom okN 37 24 = true := by decide +kernel
theorem ev_3 : allFrom okN 61 6 = true := by decide +kernel
theorem ev_4 : allFrom okN 67 12 = true := by decide +kernel
theorem ev_5 : allFrom okN 79 12 = true := by decide +kernel
theorem ev_6 : allFrom okN 91 6 = true := by decide +kernel
theorem ev_7 : allFrom okN 97 12 = true := by decide +kernel
theorem ev_8 : allFrom okN 109 8 = true := by decide +kernel
theorem ev_9 : allFrom okN 117 10 = true := by decide +kernel
theorem ev_10 : allFrom okN 127 6 = true := by decide +kernel
theorem ev_11 : allFrom okN 133 6 = true := by decide +kernel
theorem ev_12 : allFrom okN 139 12 = true := by decide +kernel
theorem ev_13 : allFrom okN 151 6 = true := by decide +kernel
theorem ev_14 : allFrom okN 157 6 = true := by decide +kernel
theorem ev_15 : allFrom okN 163 8 = true := by decide +kernel
theorem ev_16 : allFrom okN 171 10 = true := by decide +kernel
theorem ev_17 : allFrom okN 181 12 = true := by decide +kernel
theorem ev_18 : allFrom okN 193 6 = true := by decide +kernel
theorem ev_19 : allFrom okN 199 12 = true := by decide +kernel
theorem ev_20 : allFrom okN 211 6 = true := by decide +kernel
theorem ev_21 : allFrom okN 217 6 = true := by decide +kernel
theorem ev_22 : allFrom okN 223 6 = true := by decide +kernel
theorem ev_23 : allFrom okN 229 12 = true := by decide +kernel
theorem ev_24 : allFrom okN 241 6 = true := by decide +kernel
theorem ev_25 : allFrom okN 247 12 = true := by decide +kernel
theorem ev_26 : allFrom okN 259 12 = true := by decide +kernel
theorem ev_27 : allFrom okN 271 6 = true := by decide +kernel
theorem ev_28 : allFrom okN 277 2 = true := by decide +kernel
theorem ev_29 : allFrom okN 279 4 = true := by decide +kernel
theorem ev_30 : allFrom okN 283 18 = true := by decide +kernel
theorem ev_all : ∀ n : Nat, 1 ≤ n → n ≤ 300 → okN n = true := fun n h1 h2 => by
  by_cases g0 : n < 19
  · exact allFrom_ok ev_0 n (by omega) (by omega)
  by_cases g1 : n < 37
  · exact allFrom_ok ev_1 n (by omega) (by omega)
  by_cases g2 : n < 61
  · exact allFrom_ok ev_2 n (by omega) (by omega)
  by_cases g3 : n < 67
  · exact allFrom_ok ev_3 n (by omega) (by omega)
  by_cases g4 : n < 79
  · exact allFrom_ok ev_4 n (by omega) (by omega)
  by_cases g5 : n < 91
  · exact allFrom_ok ev_5 n (by omega) (by omega)
  by_cases g6 : n < 97
  · exact allFrom_ok ev_6 n (by omega) (by omega)
  by_cases g7 : n < 109
  · exact allFrom_ok ev_7 n (by omega) (by omega)
  by_cases g8 : n < 117
  · exact allFrom_ok ev_8 n (by omega) (by omega)
  by_cases g9 : n < 127
  · exact allFrom_ok ev_9 n (by omega) (by omega)
  by_cases g10 : n < 133
  · exact allFrom_ok ev_10 n (by omega) (by omega)
  by_cases g11 : n < 139
  · exact allFrom_ok ev_11 n (by omega) (by omega)
  by_cases g12 : n < 151
  · exact allFrom_ok ev_12 n (by omega) (by omega)
  by_cases g13 : n < 157
  · exact allFrom_ok ev_13 n (by omega) (by omega)
  by_cases g14 : n < 163
  · exact allFrom_ok ev_14 n (by omega) (by omega)
  by_cases g15 : n < 171
  · exact allFrom_ok ev_15 n (by omega) (by omega)
  by_cases g16 : n < 181
  · exact allFrom_ok ev_16 n (by omega) (by omega)
  by_cases g17 : n < 193
  · exact allFrom_ok ev_17 n (by omega) (by omega)
  by_cases g18 : n < 199
  · exact allFrom_ok ev_18 n (by omega) (by omega)
  by_cases g19 : n < 211
  · exact allFrom_ok ev_19 n (by omega) (by omega)
  by_cases g20 : n < 217
  · exact allFrom_ok ev_20 n (by omega) (by omega)
  by_cases g21 : n < 223
  · exact allFrom_ok ev_21 n (by omega) (by omega)
  by_cases g22 : n < 229
  · exact allFrom_ok ev_22 n (by omega) (by omega)
  by_cases g23 : n < 241
  · exact allFrom_ok ev_23 n (by omega) (by omega)
  by_cases g24 : n < 247
  · exact allFrom_ok ev_24 n (by omega) (by omega)
  by_cases g25 : n < 259
  · exact allFrom_ok ev_25 n (by omega) (by omega)
  by_cases g26 : n < 271
  · exact allFrom_ok ev_26 n (by omega) (by omega)
  by_cases g27 : n < 277
  · exact allFrom_ok ev_27 n (by omega) (by omega)
  by_cases g28 : n < 279
  · exact allFrom_ok ev_28 n (by omega) (by omega)
  by_cases g29 : n < 283
  · exact allFrom_ok ev_29 n (by omega) (by omega)
  exact allFrom_ok ev_30 n (by omega) (by omega)
theorem ev_final : s_final [none, none, none, none] = some (.d (.bl true)) := yesW_ok (by decide +kernel)
theorem evals : Evals := ⟨fun c h1 h2 => by
  obtain ⟨n, rfl⟩ : ∃ n : Nat, c = .ofNat n := ⟨c.toNat, by
    show c = ((c.toNat : Nat) : Int)
    omega⟩
  have h1 : (1 : Int) ≤ ((n : Nat) : Int) := h1
  have h2 : ((n : Nat) : Int) ≤ 300 := h2
  exact yesW_ok (ev_all n (by omega) (by omega)), ev_final⟩
end F79
set_option Elab.async false
set_option linter.all false
set_option maxRecDepth 100000
set_option maxHeartbeats 0
/-! Hd: the head, the law. -/
namespace F79
open PySem PySem.Spec PyProof.Rows L2 DL
theorem join5 {α β γ ε : Type} {o : Option α} {f : α → β} {g : α → γ} {k1 k2 : α → Bool} {l : α → ε} {u : β} {v : γ} {q : ε} (a : o.map f = some u) (b : o.map g = some v) (c : o.map k1 = some true) (c2 : o.map k2 = some true) (d : o.map l = some q) : o.map (fun x => (f x, g x, (k1 x && k2 x, l x))) = some (u, v, (true, q)) := by
  cases o with
  | none => cases a
  | some x =>
    have a := Option.some.inj a
    have b := Option.some.inj b
    have c := Option.some.inj c
    have c2 := Option.some.inj c2
    have d := Option.some.inj d
    dsimp only [Option.map]
    rw [a, b, c, c2, d]
    rfl
theorem run (w : World) : HandSHeadRun.RunEqI R vw hk ob 9000 names w := join5 (h_a w) (h_b w) (h_c w) (h_e w) (h_d w)
theorem told {h base : Heap} {K : PySem.W.Frag} {mg : Str → Option Value} (c : SaysF h K) (kin : K.In base) (ns : base.Ns mainGlobals mg) (tb : ∀ p ∈ tf.map (He.cT K), GxR.TabB base mg p.1 p.2) : Tx K mg base :=
  ⟨kin, ns, c.fs, c.ds, tb (He.cT K ("bar_at", none)) List.mem_cons_self, tb (He.cT K ("first_bar", none)) (List.mem_cons_of_mem _ List.mem_cons_self)⟩
theorem law_at (V_ : Evals) {P : Program} {w : World} {h : Heap} {K : PySem.W.Frag} {mg : Str → Option Value} {fa : Addr} (c : SaysF h K) (G : h.Ns mainGlobals mg) (hfa : mg ("law" : Str) = some (.ref fa)) :
    ∃ fd : FuncData, (∀ (s : Shared) (u : Value), BindsTo s fd ⟨[u], []⟩ [("_law_script", u)]) ∧ ∀ base : Heap, K.In base → base.Ns mainGlobals mg → (∀ p ∈ tf.map (He.cT K), GxR.TabB base mg p.1 p.2) → FnOk P w K mg base CX0 12 fa fd ["_law_script"] (spLaw K) := by
  obtain ⟨fd, F⟩ := c.ds 68 d_law rfl
  have e : mg ("law" : Str) = some (.ref (He.ga K "law")) := PySem.W.mg_of c.kin G (He.eqO_ok (He.ba (c.fs 59 (.glo "law") rfl)).1)
  have e2 := hfa.symm.trans e
  have e3 : fa = He.ga K "law" := by
    injection e2 with e2
    injection e2
  subst e3
  have b := FunD.bindsA (ps := ["_law_script"]) F fun _ _ _ _ _ _ us hl => match us, hl with | [_], _ => rfl
  refine ⟨fd, fun s u => b s [u] rfl, fun base kin ns tb => ?_⟩
  refine F.ok sc_law (fun vs H Q E h => ?_) fun cdv A outer s0 H vs Q E hr h => ?_
  · obtain ⟨s, ns, rfl, _⟩ := h
    rfl
  · obtain ⟨t, p, z⟩ := law_body V_ (told c kin ns tb) cdv A outer s0 H E vs Q hr h
    exact ⟨t, p.nox, z⟩
end F79
open PySem PySem.W PySem.Calls PyProof.Rows
theorem F79.holds_of (V_ : F79.Evals) : PySem.Challenge.rw_formrings_k79_whole_fields_of_square_dis.Holds := by
  w_on; o_law
  refine HandSHeadRun.head_imp (r := OpenLaw.row PySem.Challenge.rw_formrings_k79_whole_fields_of_square_dis) (q := F79.vw) (H := F79.hk) (ob := F79.ob) (M := 9000) (loose := F79.names) (d := HandSHeadRun.topDef (OpenLaw.row PySem.Challenge.rw_formrings_k79_whole_fields_of_square_dis).prog 134) (kwd := []) F79.ob_eq
    F79.run (by kernel_rfl) (by kernel_rfl) (by kernel_rfl) (by rfl) (by first | assumption | decide +kernel) (by decide +kernel) ⟨rfl, rfl, rfl, rfl, rfl, by decide +kernel⟩ ?hw ?hc
  case hw => w_witness2
  case hc =>
    refine LamX.walk_ofTsE (l := PySem.Challenge.rw_formrings_k79_whole_fields_of_square_dis) (n := 63) (k := 12) (x := "_law_script") (CX := fun _ => L2.CX0) rfl (by decide) (by kernel_rfl) ⟨rfl, by decide, by decide⟩ ?F (fun _ _ _ _ _ z => z)
    intro w mg fa h Y G hmg0
    obtain ⟨K, c⟩ := Y
    have hmg : mg ("law" : PySem.Str) = some (.ref fa) := by
      have e : (HandSHeadRun.topDef (OpenLaw.row PySem.Challenge.rw_formrings_k79_whole_fields_of_square_dis).prog 134).name = ("law" : PySem.Str) := by kernel_rfl
      rw [← e]
      exact hmg0
    obtain ⟨fd, hb, hF⟩ := F79.law_at (P := (PySem.Challenge.rw_formrings_k79_whole_fields_of_square_dis).prog) (w := w) V_ c G hmg
    refine ⟨K, c.kin, fd, F79.tf.map (He.cT K), F79.spLaw K, fun p hp => ?_, fun p hp => ?_, fun p hp => ?_, hb, fun H a ns hl _ hT hS => ?_, fun base kin ns tb => hF base kin ns fun p hp => ⟨(tb p hp).code, (tb p hp).bm, (tb p hp).gP⟩⟩
    · obtain ⟨q, hq, rfl⟩ := List.mem_map.mp hp
      exact c.empty q hq
    · obtain ⟨q, hq, rfl⟩ := List.mem_map.mp hp
      exact c.out q hq
    · obtain ⟨q, hq, rfl⟩ := List.mem_map.mp hp
      exact PySem.W.codeHd_of_K c.kin (c.hd q hq)
    · exact ⟨a, ns, rfl, hS, ⟨⟨#[], hT (He.cT K ("bar_at", none)) List.mem_cons_self, trivial⟩, ⟨#[], hT (He.cT K ("first_bar", none)) (List.mem_cons_of_mem _ List.mem_cons_self), trivial⟩⟩, fun _ => rfl⟩
theorem PySem.Challenge.cw_formrings_k79_whole_fields_of_square_dis_holds : PySem.Challenge.rw_formrings_k79_whole_fields_of_square_dis.Holds := by
  exact F79.holds_of F79.evals
