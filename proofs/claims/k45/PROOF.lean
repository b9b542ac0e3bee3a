import PyProof.Rows.All
import Wide.All
import OpenK.AllK
import Wide.FinOn
import HandS.ForMost
import HandS.Walk
import HandS.Zip
import HandS.Style
import HandS.Flow
import HandS.Wide
import HandS.Star
import HandS.Slots
import HandS.SlotsOwn
import HandS.IsInst
import HandS.Gcd
import HandS.Defaults
import HandS.AnyAll
import HandS.Codes
import PySem.Challenge.RW_sourceforms_k45_whole_told_invariants
import KE.GoesMore
import KE.GoesZip
import KE.GoesEnum
import HandS.Dict
import HandS.FStrTup
import HandS.JoinGen
import KE.KStateDown
import HandS.Head0
import HandS.Head1
import HandS.Head2
import HandS.Head3
import HandS.HeadEnd
import HandS.HeadWalk
import HandS.HeadHook1
import HandS.HeadHook2
import HandS.EndTab
import HandS.EndBits
set_option Elab.async false
set_option linter.all false
set_option maxRecDepth 100000
set_option maxHeartbeats 0
/-! What this program's law asks at every script: the top is run once with the facts wanted of it, each def is walked once over a small logic of lists and slots, the numbers' own laws (transvectants of binary forms) are plain algebra. -/
namespace K45
open PySem PySem.Spec PyProof.Rows L2
/-! ### the text -/
def top (i : Nat) : Stmt := PySem.Challenge.pw_sourceforms_k45_whole_told_invariants.main.body.getD i (.Pass ⟨0, 0, 0, 0⟩)
def classBody (s : Stmt) : List Stmt := match s with
  | .ClassDef _ _ _ b _ _ _ _ _ _ _ => b
  | _ => []
def topC (i j : Nat) : Stmt := (classBody (top i)).getD j (.Pass ⟨0, 0, 0, 0⟩)
abbrev s_Form_degree : Stmt := topC 43 5
abbrev s_Form_entries : Stmt := topC 43 4
abbrev s_Form_init : Stmt := topC 43 1
abbrev s_Form_is_zero : Stmt := topC 43 6
abbrev s_Told_init : Stmt := topC 41 1
abbrev s__law_all_product : Stmt := top 77
abbrev s__law_by_x : Stmt := top 79
abbrev s__law_by_y : Stmt := top 80
abbrev s__law_changed : Stmt := top 83
abbrev s__law_choose : Stmt := top 73
abbrev s__law_derived : Stmt := top 81
abbrev s__law_det : Stmt := top 90
abbrev s__law_dice : Stmt := top 65
abbrev s__law_falls_right : Stmt := top 95
abbrev s__law_form : Stmt := top 88
abbrev s__law_gcd : Stmt := top 70
abbrev s__law_invariants : Stmt := top 92
abbrev s__law_laid : Stmt := top 82
abbrev s__law_line : Stmt := top 85
abbrev s__law_mixed : Stmt := top 68
abbrev s__law_near : Stmt := top 69
abbrev s__law_parted_form : Stmt := top 91
abbrev s__law_pick : Stmt := top 67
abbrev s__law_plain : Stmt := top 84
abbrev s__law_plus : Stmt := top 74
abbrev s__law_point : Stmt := top 86
abbrev s__law_power : Stmt := top 78
abbrev s__law_product : Stmt := top 76
abbrev s__law_raised : Stmt := top 72
abbrev s__law_right : Stmt := top 94
abbrev s__law_roll : Stmt := top 66
abbrev s__law_scaled : Stmt := top 75
abbrev s__law_shared : Stmt := top 71
abbrev s__law_sizes : Stmt := top 93
abbrev s__law_small_form : Stmt := top 87
abbrev s__law_table : Stmt := top 89
abbrev s_add_product : Stmt := top 51
abbrev s_are_entries : Stmt := top 42
abbrev s_are_short : Stmt := top 15
abbrev s_common_line : Stmt := top 30
abbrev s_common_of : Stmt := top 28
abbrev s_ends_in : Stmt := top 29
abbrev s_fall_kind : Stmt := top 58
abbrev s_first_of : Stmt := top 19
abbrev s_form_of : Stmt := top 44
abbrev s_is_from : Stmt := top 14
abbrev s_is_short : Stmt := top 13
abbrev s_is_whole : Stmt := top 12
abbrev s_is_zero_in : Stmt := top 40
abbrev s_laid : Stmt := top 53
abbrev s_laid_in : Stmt := top 52
abbrev s_last_entry : Stmt := top 59
abbrev s_law : Stmt := top 96
abbrev s_laying_slope : Stmt := top 49
abbrev s_laying_slopes : Stmt := top 50
abbrev s_left_by : Stmt := top 27
abbrev s_lessened_line : Stmt := top 31
abbrev s_lots_of : Stmt := top 21
abbrev s_most_times_in : Stmt := top 57
abbrev s_primitive_of : Stmt := top 20
abbrev s_require_form : Stmt := top 45
abbrev s_require_told : Stmt := top 56
abbrev s_shared_of : Stmt := top 18
abbrev s_smaller : Stmt := top 26
abbrev s_told_in : Stmt := top 62
abbrev s_told_invariants : Stmt := top 63
abbrev s_told_of_five : Stmt := top 60
abbrev s_told_of_six : Stmt := top 61
abbrev s_without_zeros : Stmt := top 25
end K45
namespace K45
open PySem PySem.Spec PyProof.Rows L2
/-! ### the head's facts -/
/-- a def as it stands behind the top: its address, its code object's -/
structure DA where
  a : Addr
  c : Addr
  name : Str
  qual : Str
  params : Arguments
  body : List Stmt
  scope : Scope
def isNon : Value → Bool
  | .none => true
  | _ => false
def isRef (c : Addr) : Value → Bool
  | .ref d => decide (d = c)
  | _ => false
def DA.ok (K : PySem.W.Frag) (d : DA) : Bool := match K.lookup d.a with
  | some ⟨_, _, .func fd, _⟩ => isRef d.c fd.code && (PySem.W.codeIn K fd.code d.qual && isNon fd.defaults)
  | _ => false
abbrev FnA : Type := Option (Str × Str × Arguments × FuncBody × Scope × Addr × List (Str × Addr) × Addr)
def fnA (K : PySem.W.Frag) (a : Addr) : FnA := match K.lookup a with
  | some ⟨_, _, .func fd, _⟩ => some (fd.name, fd.qualname, fd.params, fd.body, fd.scope, fd.globals, fd.closure, fd.builtins)
  | _ => none
def DA.val (d : DA) : FnA := some (d.name, d.qual, d.params, .stmts d.body, d.scope, mainGlobals, [], builtinsNs)
theorem DA.funD {K : PySem.W.Frag} {d : DA} (e : fnA K d.a = d.val) (c : d.ok K = true) : ∃ fd, FunD K d.name d.qual d.params d.body d.scope [] [] d.a fd ∧ fd.code = .ref d.c := by
  unfold DA.ok at c
  unfold fnA at e
  cases q : K.lookup d.a with
  | none =>
    rw [q] at c
    cases c
  | some o =>
    obtain ⟨oc, od, dt, osl⟩ := o
    rw [q] at c e
    cases dt with
    | func fd =>
      obtain ⟨n1, n2, n3, n4, n5, n6, n7, n8, n9, n10, n11, n12, n13, n14, n15⟩ := fd
      have e2 : (some (n1, n2, n3, n4, n5, n6, n7, n15) : FnA) = some (d.name, d.qual, d.params, .stmts d.body, d.scope, mainGlobals, [], builtinsNs) := e
      simp only [Option.some.injEq, Prod.mk.injEq] at e2
      obtain ⟨h1, h2, h3, h4, h5, h6, h7, h8⟩ := e2
      subst h1 h2 h3 h4 h5 h6 h7 h8
      have c3 : (isRef d.c n13 && (PySem.W.codeIn K n13 d.qual && isNon n8)) = true := c
      obtain ⟨k0, k4⟩ := Bool.and_eq_true_iff.mp c3
      obtain ⟨k1, k2⟩ := Bool.and_eq_true_iff.mp k4
      have e8 : n8 = .none := by
        cases n8 <;> first | rfl | cases k2
      have e13 : n13 = .ref d.c := by
        cases n13 with
        | ref b => rw [show b = d.c from of_decide_eq_true k0]
        | _ => cases k0
      refine ⟨_, ⟨⟨oc, od, n8, n9, n10, n11, n12, n13, n14, osl, rfl, q, k1, .inl ⟨rfl, e8⟩, .inl rfl⟩, ?_⟩, e13⟩
      show (match K.lookup d.a with
        | some ⟨_, _, .func _, _⟩ => true
        | some ⟨_, _, .cls _, _⟩ => PySem.W.specialIn K (.ref d.a) "__call__" == some (some (.builtin "type.__call__"))
        | _ => false) = true
      rw [q]
    | _ => cases c
def glOk (K : PySem.W.Frag) (p : Str × Option Addr) : Bool := decide (PySem.W.nsIn K mainGlobals p.1 = some (p.2.map Value.ref))
def inOk (K : PySem.W.Frag) (p : Str × Int) : Bool := match PySem.W.nsIn K mainGlobals p.1 with
  | some (some (.int j _)) => decide (j = p.2)
  | _ => false
def gcdOk (K : PySem.W.Frag) : Bool := decide (PySem.W.nsIn K mainGlobals "gcd" = some (some (.builtin "math.gcd")))
def clOk (K : PySem.W.Frag) (C f : Addr) : Bool := PySem.W.makesIn K C && (decide (PySem.W.findIn K (.ref C) "__init__" = some (some (.ref f))) && (PySem.W.isFn K (.ref f) && (PySem.W.keepIn K (.ref C) && (PySem.W.plainGet K C Str.empty && (PySem.W.isClsIn K C && (PySem.W.plainOver K C && decide (PySem.W.findIn K (.ref C) "__setattr__" = some (some (.builtin "object.__setattr__")))))))))
def isiOk (K : PySem.W.Frag) (C : Addr) : Bool := decide (PySem.W.findIn K (.ref C) "__class__" = some (some (.builtin "object.__class__"))) && (decide (PySem.W.specialIn K (.builtin "object.__class__") "__get__" = some (some (.builtin "getset_descriptor.__get__"))) && (decide (PySem.W.takesIn K (.builtin "object.__class__") = some true) && (decide (PySem.W.mroIn K C (.type "object") = some true) && decide (PySem.W.kitOne K (.ref C) (.ref C) = some true))))
def slOk (K : PySem.W.Frag) (C : Addr) (f : Str) (p : Addr) : Bool := decide (PySem.W.findIn K (.ref C) f = some (some (.ref p))) && (decide (PySem.W.specialIn K (.ref p) "__get__" = some (some (.builtin "member_descriptor.__get__"))) && (decide (PySem.W.takesIn K (.ref p) = some true) && (decide (PySem.W.typeIn K (.ref p) = some (.type "member_descriptor")) && decide (PySem.W.slotIn K p C = some 0))))
def prOk (K : PySem.W.Frag) (C : Addr) (f : Str) (p g : Addr) : Bool := decide (PySem.W.findIn K (.ref C) f = some (some (.ref p))) && (decide (PySem.W.specialIn K (.ref p) "__get__" = some (some (.builtin "property.__get__"))) && (decide (PySem.W.takesIn K (.ref p) = some true) && (match PySem.W.recIn K p "property" with
  | some (.ref h :: _) => decide (h = g)
  | _ => false)))
def kitOk (K : PySem.W.Frag) : Bool := decide (PySem.W.kitOne K (.type "tuple") (.ref 337) = some false)
def tabOk (g : Addr → Option Obj) : Bool := match g 203 with
  | some ⟨.none, .none, .fields vs, sl⟩ => vs.isEmpty && sl.isEmpty
  | _ => false
def cdOk (g : Addr → Option Obj) : Bool := match g 207 with
  | some ⟨.type "code", _, .fields vs, _⟩ => (match vs.toList with
    | [_, _, _, _, _, _, _, .int _ _, _, .bool _, .int _ _, .ref p, _, _, _, _, _, _, .str _ _] => decide (p = 203)
    | _ => false)
  | _ => false
def d_is_whole : DA := ⟨161, 160, "is_whole", "is_whole", L2.defArgs s_is_whole, L2.defBody s_is_whole, L2.defScope s_is_whole⟩
def d_is_short : DA := ⟨168, 167, "is_short", "is_short", L2.defArgs s_is_short, L2.defBody s_is_short, L2.defScope s_is_short⟩
def d_is_from : DA := ⟨175, 174, "is_from", "is_from", L2.defArgs s_is_from, L2.defBody s_is_from, L2.defScope s_is_from⟩
def d_are_short : DA := ⟨180, 179, "are_short", "are_short", L2.defArgs s_are_short, L2.defBody s_are_short, L2.defScope s_are_short⟩
def d_shared_of : DA := ⟨201, 200, "shared_of", "shared_of", L2.defArgs s_shared_of, L2.defBody s_shared_of, L2.defScope s_shared_of⟩
def d_first_of : DA := ⟨208, 207, "first_of", "first_of", L2.defArgs s_first_of, L2.defBody s_first_of, L2.defScope s_first_of⟩
def d_primitive_of : DA := ⟨213, 212, "primitive_of", "primitive_of", L2.defArgs s_primitive_of, L2.defBody s_primitive_of, L2.defScope s_primitive_of⟩
def d_lots_of : DA := ⟨220, 219, "lots_of", "lots_of", L2.defArgs s_lots_of, L2.defBody s_lots_of, L2.defScope s_lots_of⟩
def d_without_zeros : DA := ⟨239, 238, "without_zeros", "without_zeros", L2.defArgs s_without_zeros, L2.defBody s_without_zeros, L2.defScope s_without_zeros⟩
def d_smaller : DA := ⟨244, 243, "smaller", "smaller", L2.defArgs s_smaller, L2.defBody s_smaller, L2.defScope s_smaller⟩
def d_left_by : DA := ⟨249, 248, "left_by", "left_by", L2.defArgs s_left_by, L2.defBody s_left_by, L2.defScope s_left_by⟩
def d_common_of : DA := ⟨256, 255, "common_of", "common_of", L2.defArgs s_common_of, L2.defBody s_common_of, L2.defScope s_common_of⟩
def d_ends_in : DA := ⟨263, 262, "ends_in", "ends_in", L2.defArgs s_ends_in, L2.defBody s_ends_in, L2.defScope s_ends_in⟩
def d_common_line : DA := ⟨270, 269, "common_line", "common_line", L2.defArgs s_common_line, L2.defBody s_common_line, L2.defScope s_common_line⟩
def d_lessened_line : DA := ⟨275, 274, "lessened_line", "lessened_line", L2.defArgs s_lessened_line, L2.defBody s_lessened_line, L2.defScope s_lessened_line⟩
def d_is_zero_in : DA := ⟨318, 317, "is_zero_in", "is_zero_in", L2.defArgs s_is_zero_in, L2.defBody s_is_zero_in, L2.defScope s_is_zero_in⟩
def d_are_entries : DA := ⟨347, 346, "are_entries", "are_entries", L2.defArgs s_are_entries, L2.defBody s_are_entries, L2.defScope s_are_entries⟩
def d_form_of : DA := ⟨521, 520, "form_of", "form_of", L2.defArgs s_form_of, L2.defBody s_form_of, L2.defScope s_form_of⟩
def d_require_form : DA := ⟨528, 527, "require_form", "require_form", L2.defArgs s_require_form, L2.defBody s_require_form, L2.defScope s_require_form⟩
def d_laying_slope : DA := ⟨538, 537, "laying_slope", "laying_slope", L2.defArgs s_laying_slope, L2.defBody s_laying_slope, L2.defScope s_laying_slope⟩
def d_laying_slopes : DA := ⟨543, 542, "laying_slopes", "laying_slopes", L2.defArgs s_laying_slopes, L2.defBody s_laying_slopes, L2.defScope s_laying_slopes⟩
def d_add_product : DA := ⟨550, 549, "add_product", "add_product", L2.defArgs s_add_product, L2.defBody s_add_product, L2.defScope s_add_product⟩
def d_laid_in : DA := ⟨557, 556, "laid_in", "laid_in", L2.defArgs s_laid_in, L2.defBody s_laid_in, L2.defScope s_laid_in⟩
def d_laid : DA := ⟨564, 563, "laid", "laid", L2.defArgs s_laid, L2.defBody s_laid, L2.defScope s_laid⟩
def d_require_told : DA := ⟨571, 570, "require_told", "require_told", L2.defArgs s_require_told, L2.defBody s_require_told, L2.defScope s_require_told⟩
def d_most_times_in : DA := ⟨578, 577, "most_times_in", "most_times_in", L2.defArgs s_most_times_in, L2.defBody s_most_times_in, L2.defScope s_most_times_in⟩
def d_fall_kind : DA := ⟨585, 584, "fall_kind", "fall_kind", L2.defArgs s_fall_kind, L2.defBody s_fall_kind, L2.defScope s_fall_kind⟩
def d_last_entry : DA := ⟨592, 591, "last_entry", "last_entry", L2.defArgs s_last_entry, L2.defBody s_last_entry, L2.defScope s_last_entry⟩
def d_told_of_five : DA := ⟨599, 598, "told_of_five", "told_of_five", L2.defArgs s_told_of_five, L2.defBody s_told_of_five, L2.defScope s_told_of_five⟩
def d_told_of_six : DA := ⟨606, 605, "told_of_six", "told_of_six", L2.defArgs s_told_of_six, L2.defBody s_told_of_six, L2.defScope s_told_of_six⟩
def d_told_in : DA := ⟨613, 612, "told_in", "told_in", L2.defArgs s_told_in, L2.defBody s_told_in, L2.defScope s_told_in⟩
def d_told_invariants : DA := ⟨620, 619, "told_invariants", "told_invariants", L2.defArgs s_told_invariants, L2.defBody s_told_invariants, L2.defScope s_told_invariants⟩
def d__law_dice : DA := ⟨627, 626, "_law_dice", "_law_dice", L2.defArgs s__law_dice, L2.defBody s__law_dice, L2.defScope s__law_dice⟩
def d__law_roll : DA := ⟨634, 633, "_law_roll", "_law_roll", L2.defArgs s__law_roll, L2.defBody s__law_roll, L2.defScope s__law_roll⟩
def d__law_pick : DA := ⟨641, 640, "_law_pick", "_law_pick", L2.defArgs s__law_pick, L2.defBody s__law_pick, L2.defScope s__law_pick⟩
def d__law_mixed : DA := ⟨648, 647, "_law_mixed", "_law_mixed", L2.defArgs s__law_mixed, L2.defBody s__law_mixed, L2.defScope s__law_mixed⟩
def d__law_near : DA := ⟨655, 654, "_law_near", "_law_near", L2.defArgs s__law_near, L2.defBody s__law_near, L2.defScope s__law_near⟩
def d__law_gcd : DA := ⟨662, 661, "_law_gcd", "_law_gcd", L2.defArgs s__law_gcd, L2.defBody s__law_gcd, L2.defScope s__law_gcd⟩
def d__law_shared : DA := ⟨669, 668, "_law_shared", "_law_shared", L2.defArgs s__law_shared, L2.defBody s__law_shared, L2.defScope s__law_shared⟩
def d__law_raised : DA := ⟨676, 675, "_law_raised", "_law_raised", L2.defArgs s__law_raised, L2.defBody s__law_raised, L2.defScope s__law_raised⟩
def d__law_choose : DA := ⟨683, 682, "_law_choose", "_law_choose", L2.defArgs s__law_choose, L2.defBody s__law_choose, L2.defScope s__law_choose⟩
def d__law_plus : DA := ⟨688, 687, "_law_plus", "_law_plus", L2.defArgs s__law_plus, L2.defBody s__law_plus, L2.defScope s__law_plus⟩
def d__law_scaled : DA := ⟨693, 692, "_law_scaled", "_law_scaled", L2.defArgs s__law_scaled, L2.defBody s__law_scaled, L2.defScope s__law_scaled⟩
def d__law_product : DA := ⟨698, 697, "_law_product", "_law_product", L2.defArgs s__law_product, L2.defBody s__law_product, L2.defScope s__law_product⟩
def d__law_all_product : DA := ⟨705, 704, "_law_all_product", "_law_all_product", L2.defArgs s__law_all_product, L2.defBody s__law_all_product, L2.defScope s__law_all_product⟩
def d__law_power : DA := ⟨712, 711, "_law_power", "_law_power", L2.defArgs s__law_power, L2.defBody s__law_power, L2.defScope s__law_power⟩
def d__law_by_x : DA := ⟨717, 716, "_law_by_x", "_law_by_x", L2.defArgs s__law_by_x, L2.defBody s__law_by_x, L2.defScope s__law_by_x⟩
def d__law_by_y : DA := ⟨722, 721, "_law_by_y", "_law_by_y", L2.defArgs s__law_by_y, L2.defBody s__law_by_y, L2.defScope s__law_by_y⟩
def d__law_derived : DA := ⟨729, 728, "_law_derived", "_law_derived", L2.defArgs s__law_derived, L2.defBody s__law_derived, L2.defScope s__law_derived⟩
def d__law_laid : DA := ⟨734, 733, "_law_laid", "_law_laid", L2.defArgs s__law_laid, L2.defBody s__law_laid, L2.defScope s__law_laid⟩
def d__law_changed : DA := ⟨739, 738, "_law_changed", "_law_changed", L2.defArgs s__law_changed, L2.defBody s__law_changed, L2.defScope s__law_changed⟩
def d__law_plain : DA := ⟨744, 743, "_law_plain", "_law_plain", L2.defArgs s__law_plain, L2.defBody s__law_plain, L2.defScope s__law_plain⟩
def d__law_line : DA := ⟨751, 750, "_law_line", "_law_line", L2.defArgs s__law_line, L2.defBody s__law_line, L2.defScope s__law_line⟩
def d__law_point : DA := ⟨758, 757, "_law_point", "_law_point", L2.defArgs s__law_point, L2.defBody s__law_point, L2.defScope s__law_point⟩
def d__law_small_form : DA := ⟨763, 762, "_law_small_form", "_law_small_form", L2.defArgs s__law_small_form, L2.defBody s__law_small_form, L2.defScope s__law_small_form⟩
def d__law_form : DA := ⟨768, 767, "_law_form", "_law_form", L2.defArgs s__law_form, L2.defBody s__law_form, L2.defScope s__law_form⟩
def d__law_table : DA := ⟨773, 772, "_law_table", "_law_table", L2.defArgs s__law_table, L2.defBody s__law_table, L2.defScope s__law_table⟩
def d__law_det : DA := ⟨780, 779, "_law_det", "_law_det", L2.defArgs s__law_det, L2.defBody s__law_det, L2.defScope s__law_det⟩
def d__law_parted_form : DA := ⟨785, 784, "_law_parted_form", "_law_parted_form", L2.defArgs s__law_parted_form, L2.defBody s__law_parted_form, L2.defScope s__law_parted_form⟩
def d__law_invariants : DA := ⟨792, 791, "_law_invariants", "_law_invariants", L2.defArgs s__law_invariants, L2.defBody s__law_invariants, L2.defScope s__law_invariants⟩
def d__law_sizes : DA := ⟨799, 798, "_law_sizes", "_law_sizes", L2.defArgs s__law_sizes, L2.defBody s__law_sizes, L2.defScope s__law_sizes⟩
def d__law_right : DA := ⟨804, 803, "_law_right", "_law_right", L2.defArgs s__law_right, L2.defBody s__law_right, L2.defScope s__law_right⟩
def d__law_falls_right : DA := ⟨811, 810, "_law_falls_right", "_law_falls_right", L2.defArgs s__law_falls_right, L2.defBody s__law_falls_right, L2.defScope s__law_falls_right⟩
def d_law : DA := ⟨816, 815, "law", "law", L2.defArgs s_law, L2.defBody s_law, L2.defScope s_law⟩
def d_Told_init : DA := ⟨333, 332, "__init__", "Told.__init__", L2.defArgs s_Told_init, L2.defBody s_Told_init, L2.defScope s_Told_init⟩
def d_Form_init : DA := ⟨362, 361, "__init__", "Form.__init__", L2.defArgs s_Form_init, L2.defBody s_Form_init, L2.defScope s_Form_init⟩
def d_Form_entries : DA := ⟨389, 388, "entries", "Form.entries", L2.defArgs s_Form_entries, L2.defBody s_Form_entries, L2.defScope s_Form_entries⟩
def d_Form_degree : DA := ⟨397, 396, "degree", "Form.degree", L2.defArgs s_Form_degree, L2.defBody s_Form_degree, L2.defScope s_Form_degree⟩
def d_Form_is_zero : DA := ⟨405, 404, "is_zero", "Form.is_zero", L2.defArgs s_Form_is_zero, L2.defBody s_Form_is_zero, L2.defScope s_Form_is_zero⟩
def fn0 : List DA := [d_is_whole, d_is_short, d_is_from, d_are_short, d_shared_of, d_first_of, d_primitive_of, d_lots_of, d_without_zeros, d_smaller, d_left_by, d_common_of, d_ends_in, d_common_line, d_lessened_line, d_is_zero_in, d_are_entries, d_form_of, d_require_form, d_laying_slope]
def fn1 : List DA := [d_laying_slopes, d_add_product, d_laid_in, d_laid, d_require_told, d_most_times_in, d_fall_kind, d_last_entry, d_told_of_five, d_told_of_six, d_told_in, d_told_invariants, d__law_dice, d__law_roll, d__law_pick, d__law_mixed, d__law_near, d__law_gcd, d__law_shared, d__law_raised]
def fn2 : List DA := [d__law_choose, d__law_plus, d__law_scaled, d__law_product, d__law_all_product, d__law_power, d__law_by_x, d__law_by_y, d__law_derived, d__law_laid, d__law_changed, d__law_plain, d__law_line, d__law_point, d__law_small_form, d__law_form, d__law_table, d__law_det, d__law_parted_form, d__law_invariants]
def fn3 : List DA := [d__law_sizes, d__law_right, d__law_falls_right, d_law, d_Told_init, d_Form_init, d_Form_entries, d_Form_degree, d_Form_is_zero]
def gl0 : List (Str × Option Addr) := [("len", none), ("max", none), ("min", none), ("abs", none), ("int", none), ("isinstance", none), ("all", none), ("any", none), ("tuple", none), ("list", none), ("range", none), ("enumerate", none), ("zip", none), ("repr", none), ("next", none), ("bool", none), ("is_whole", some 161), ("is_short", some 168), ("is_from", some 175), ("are_short", some 180), ("shared_of", some 201), ("first_of", some 208), ("primitive_of", some 213), ("lots_of", some 220), ("without_zeros", some 239), ("smaller", some 244), ("left_by", some 249), ("common_of", some 256), ("ends_in", some 263), ("common_line", some 270)]
def gl1 : List (Str × Option Addr) := [("lessened_line", some 275), ("is_zero_in", some 318), ("are_entries", some 347), ("form_of", some 521), ("require_form", some 528), ("laying_slope", some 538), ("laying_slopes", some 543), ("add_product", some 550), ("laid_in", some 557), ("laid", some 564), ("require_told", some 571), ("most_times_in", some 578), ("fall_kind", some 585), ("last_entry", some 592), ("told_of_five", some 599), ("told_of_six", some 606), ("told_in", some 613), ("told_invariants", some 620), ("_law_dice", some 627), ("_law_roll", some 634), ("_law_pick", some 641), ("_law_mixed", some 648), ("_law_near", some 655), ("_law_gcd", some 662), ("_law_shared", some 669), ("_law_raised", some 676), ("_law_choose", some 683), ("_law_plus", some 688), ("_law_scaled", some 693), ("_law_product", some 698)]
def gl2 : List (Str × Option Addr) := [("_law_all_product", some 705), ("_law_power", some 712), ("_law_by_x", some 717), ("_law_by_y", some 722), ("_law_derived", some 729), ("_law_laid", some 734), ("_law_changed", some 739), ("_law_plain", some 744), ("_law_line", some 751), ("_law_point", some 758), ("_law_small_form", some 763), ("_law_form", some 768), ("_law_table", some 773), ("_law_det", some 780), ("_law_parted_form", some 785), ("_law_invariants", some 792), ("_law_sizes", some 799), ("_law_right", some 804), ("_law_falls_right", some 811), ("law", some 816), ("Told", some 337), ("Form", some 511)]
def gl : List (Str × Option Addr) := gl0 ++ gl1 ++ gl2
def as0 : List Addr := [3, 160, 161, 167, 168, 174, 175, 179, 180, 200, 201, 207, 208, 212, 213, 219, 220, 238, 239, 243, 244, 248, 249, 255, 256, 262, 263, 269, 270, 274, 275, 317, 318, 332, 333, 336, 337, 338, 346, 347]
def as1 : List Addr := [361, 362, 388, 389, 390, 396, 397, 398, 404, 405, 406, 510, 511, 512, 520, 521, 527, 528, 537, 538, 542, 543, 549, 550, 556, 557, 563, 564, 570, 571, 577, 578, 584, 585, 591, 592, 598, 599, 605, 606]
def as2 : List Addr := [612, 613, 619, 620, 626, 627, 633, 634, 640, 641, 647, 648, 654, 655, 661, 662, 668, 669, 675, 676, 682, 683, 687, 688, 692, 693, 697, 698, 704, 705, 711, 712, 716, 717, 721, 722, 728, 729, 733, 734]
def as3 : List Addr := [738, 739, 743, 744, 750, 751, 757, 758, 762, 763, 767, 768, 772, 773, 779, 780, 784, 785, 791, 792, 798, 799, 803, 804, 810, 811, 815, 816]
def hds : List Addr := as0 ++ as1 ++ as2 ++ as3
end K45
namespace K45
open PySem PySem.Spec PyProof.Rows L2
abbrev R : PySem.W.OpenRow := PySem.W.OpenLaw.row PySem.Challenge.rw_sourceforms_k45_whole_told_invariants
abbrev qv : Program := PySem.W.view R.prog [0, 96]
def names0 : List PySem.Str := [("_wall" : PySem.Str), ("LetterError" : PySem.Str), ("InvalidForm" : PySem.Str), ("InvalidTable" : PySem.Str), ("InvalidPoint" : PySem.Str), ("InvalidOperation" : PySem.Str), ("InvalidNumber" : PySem.Str), ("TooMany" : PySem.Str), ("GREATEST" : PySem.Str), ("is_whole" : PySem.Str), ("is_short" : PySem.Str), ("is_from" : PySem.Str), ("are_short" : PySem.Str), ("require_short" : PySem.Str), ("require_from" : PySem.Str), ("shared_of" : PySem.Str), ("first_of" : PySem.Str), ("primitive_of" : PySem.Str), ("lots_of" : PySem.Str), ("is_change" : PySem.Str), ("require_change" : PySem.Str), ("without_zeros" : PySem.Str), ("smaller" : PySem.Str), ("left_by" : PySem.Str), ("common_of" : PySem.Str), ("ends_in" : PySem.Str), ("common_line" : PySem.Str), ("lessened_line" : PySem.Str), ("MAX_DEGREE" : PySem.Str), ("product_in" : PySem.Str), ("joined_entries" : PySem.Str), ("power_in" : PySem.Str), ("value_in" : PySem.Str), ("changed_in" : PySem.Str), ("derived_in" : PySem.Str)]
def names1 : List PySem.Str := [("is_zero_in" : PySem.Str), ("Told" : PySem.Str), ("are_entries" : PySem.Str), ("Form" : PySem.Str), ("form_of" : PySem.Str), ("require_form" : PySem.Str), ("sum_in" : PySem.Str), ("MOST_LAID" : PySem.Str), ("laying_slope" : PySem.Str), ("laying_slopes" : PySem.Str), ("add_product" : PySem.Str), ("laid_in" : PySem.Str), ("laid" : PySem.Str), ("MAX_TOLD" : PySem.Str), ("require_told" : PySem.Str), ("most_times_in" : PySem.Str), ("fall_kind" : PySem.Str), ("last_entry" : PySem.Str), ("told_of_five" : PySem.Str), ("told_of_six" : PySem.Str), ("told_in" : PySem.Str), ("told_invariants" : PySem.Str), ("_law_dice" : PySem.Str), ("_law_roll" : PySem.Str), ("_law_pick" : PySem.Str), ("_law_mixed" : PySem.Str), ("_law_near" : PySem.Str), ("_law_gcd" : PySem.Str), ("_law_shared" : PySem.Str), ("_law_raised" : PySem.Str), ("_law_choose" : PySem.Str), ("_law_plus" : PySem.Str), ("_law_scaled" : PySem.Str), ("_law_product" : PySem.Str), ("_law_all_product" : PySem.Str)]
def names2 : List PySem.Str := [("_law_power" : PySem.Str), ("_law_by_x" : PySem.Str), ("_law_by_y" : PySem.Str), ("_law_derived" : PySem.Str), ("_law_laid" : PySem.Str), ("_law_changed" : PySem.Str), ("_law_plain" : PySem.Str), ("_law_line" : PySem.Str), ("_law_point" : PySem.Str), ("_law_small_form" : PySem.Str), ("_law_form" : PySem.Str), ("_law_table" : PySem.Str), ("_law_det" : PySem.Str), ("_law_parted_form" : PySem.Str), ("_law_invariants" : PySem.Str), ("_law_sizes" : PySem.Str), ("_law_right" : PySem.Str), ("_law_falls_right" : PySem.Str)]
def names : List PySem.Str := names0 ++ names1 ++ names2
/-- no list among the known objects -/
def noLst (K : PySem.W.Frag) : Bool := K.all fun p => match p.2.cls with
  | .type t => t != "list"
  | _ => true
abbrev AlL : Type := (Bool × Bool × Bool × Bool × Bool × Bool) × (Bool × Bool × Bool × Bool × Bool × Bool) × (Bool × Bool × Bool × Bool × Bool × Bool) × List FnA
def fnAll : List DA := fn0 ++ fn1 ++ fn2 ++ fn3
def obsAll (g : Addr → Option Obj) : AlL :=
  let K := He.frG g hds
  ((gl.all (glOk K), ([("GREATEST", 10 ^ 60), ("MAX_DEGREE", 40), ("MOST_LAID", 40), ("MAX_TOLD", 6)] : List (Str × Int)).all (inOk K), gcdOk K, tabOk g, cdOk g, kitOk K), (clOk K 337 333, clOk K 511 362, isiOk K 337, isiOk K 511, slOk K 337 "own_row" 338, slOk K 511 "own_entries" 512),
    (prOk K 511 "entries" 390 389, prOk K 511 "degree" 398 397, prOk K 511 "is_zero" 406 405, noLst K, (K.lookup 203).isNone, fnAll.all fun d => d.ok K), fnAll.map fun d => fnA K d.a)
def valAll : AlL := ((true, true, true, true, true, true), (true, true, true, true, true, true), (true, true, true, true, true, true), fnAll.map DA.val)
def Says (h : Heap) : Prop := ∃ g : Addr → Option Obj, (∀ a o, g a = some o → h.get? a = some o) ∧ obsAll g = valAll
def hkL : PySem.W.Hook where
  α := AlL
  obs := fun s => obsAll s.heap.get?
  val := fun _ => valAll
  says := fun _ h => Says h
  of := fun _ s e => ⟨s.heap.get?, fun _ _ z => z, e⟩
  keeps := fun _ _ _ ⟨g, k, e⟩ kk => ⟨g, fun a o z => kk a o (k a o z), e⟩
def obT (s : PySem.W.SharedT) : AlL := obsAll (HandSHeadRun.getT s)
theorem obT_eq (s : PySem.W.SharedT) : obT s = hkL.obs s.abs := by
  have e : HandSHeadRun.getT s = s.abs.heap.get? := funext (HandSHeadRun.getT_eq s)
  show obsAll _ = obsAll _
  rw [e]
theorem runL (w : World) : HandSHeadRun.RunEqI R qv hkL obT 12000 names w := by
  unfold HandSHeadRun.RunEqI
  kernel_rfl
end K45
namespace K45
/-! power series in one letter, as functions -/
structure Ser where
  at_ : Nat → Int
theorem Ser.ext {a b : Ser} (h : ∀ k, a.at_ k = b.at_ k) : a = b := by
  cases a; cases b
  have e : (_ : Nat → Int) = _ := funext h
  exact congrArg Ser.mk e
def conv (a b : Nat → Int) : Nat → Int
  | 0 => a 0 * b 0
  | k + 1 => a 0 * b (k + 1) + conv (fun j => a (j + 1)) b k
theorem conv_right (a b : Nat → Int) (k : Nat) : conv a b (k + 1) = conv a (fun j => b (j + 1)) k + a (k + 1) * b 0 := by
  induction k generalizing a b with
  | zero => simp [conv]
  | succ k ih =>
    rw [conv, ih]
    simp [conv]
    omega
theorem conv_comm (a b : Nat → Int) (k : Nat) : conv a b k = conv b a k := by
  induction k generalizing a b with
  | zero => simp [conv, Int.mul_comm]
  | succ k ih =>
    rw [conv, conv_right, ih, Int.mul_comm]
    omega
theorem conv_add (a b c : Nat → Int) (k : Nat) : conv a (fun j => b j + c j) k = conv a b k + conv a c k := by
  induction k generalizing a with
  | zero => simp [conv, Int.mul_add]
  | succ k ih =>
    simp only [conv]
    rw [ih, Int.mul_add]
    omega
theorem conv_add' (a b c : Nat → Int) (k : Nat) : conv (fun j => b j + c j) a k = conv b a k + conv c a k := by
  rw [conv_comm, conv_add, conv_comm a b, conv_comm a c]
theorem conv_smul (x : Int) (a b : Nat → Int) (k : Nat) : conv a (fun j => x * b j) k = x * conv a b k := by
  induction k generalizing a with
  | zero => simp [conv]; grind
  | succ k ih =>
    simp only [conv]
    rw [ih]
    grind
theorem conv_smul' (x : Int) (a b : Nat → Int) (k : Nat) : conv (fun j => x * a j) b k = x * conv a b k := by
  rw [conv_comm, conv_smul, conv_comm]
theorem conv_assoc (a b c : Nat → Int) (k : Nat) : conv (conv a b) c k = conv a (conv b c) k := by
  induction k generalizing a b with
  | zero => simp [conv, Int.mul_assoc]
  | succ k ih =>
    rw [conv, conv]
    have e : (fun j => conv a b (j + 1)) = (fun j => a 0 * b (j + 1) + conv (fun i => a (i + 1)) b j) := by funext j; rfl
    rw [e, conv_add', conv_smul', ih]
    simp only [conv]
    rw [Int.mul_add, Int.mul_assoc]
    omega
theorem conv_zero (b : Nat → Int) (k : Nat) : conv (fun _ => 0) b k = 0 := by
  induction k with
  | zero => simp [conv]
  | succ k ih => simp [conv, ih]
theorem conv_one (b : Nat → Int) (k : Nat) : conv (fun j => if j = 0 then 1 else 0) b k = b k := by
  cases k with
  | zero => simp [conv]
  | succ k =>
    simp only [conv]
    have e : (fun j => if j + 1 = 0 then (1 : Int) else 0) = fun _ => 0 := by funext j; simp
    rw [e, conv_zero]; simp
def Ser.c (x : Int) : Ser := ⟨fun k => if k = 0 then x else 0⟩
instance : Add Ser := ⟨fun a b => ⟨fun k => a.at_ k + b.at_ k⟩⟩
instance : Mul Ser := ⟨fun a b => ⟨conv a.at_ b.at_⟩⟩
instance : Neg Ser := ⟨fun a => ⟨fun k => - a.at_ k⟩⟩
instance : Sub Ser := ⟨fun a b => ⟨fun k => a.at_ k - b.at_ k⟩⟩
theorem add_at (a b : Ser) (k : Nat) : (a + b).at_ k = a.at_ k + b.at_ k := rfl
theorem sub_at (a b : Ser) (k : Nat) : (a - b).at_ k = a.at_ k - b.at_ k := rfl
theorem neg_at (a : Ser) (k : Nat) : (-a).at_ k = - a.at_ k := rfl
theorem mul_at (a b : Ser) (k : Nat) : (a * b).at_ k = conv a.at_ b.at_ k := rfl
theorem c_at (x : Int) (k : Nat) : (Ser.c x).at_ k = if k = 0 then x else 0 := rfl
instance : NatCast Ser := ⟨fun n => Ser.c n⟩
instance : IntCast Ser := ⟨fun n => Ser.c n⟩
instance (n : Nat) : OfNat Ser n := ⟨Ser.c n⟩
instance : HPow Ser Nat Ser := ⟨fun a n => Nat.rec 1 (fun _ r => r * a) n⟩
instance : SMul Nat Ser := ⟨fun n a => Ser.c n * a⟩
instance : SMul Int Ser := ⟨fun n a => Ser.c n * a⟩
theorem ps_add_comm (a b : Ser) : a + b = b + a := Ser.ext fun k => Int.add_comm _ _
theorem ps_add_assoc (a b c : Ser) : a + b + c = a + (b + c) := Ser.ext fun k => Int.add_assoc _ _ _
theorem ps_add_zero (a : Ser) : a + 0 = a := Ser.ext fun k => by
  show a.at_ k + (Ser.c ((0 : Nat) : Int)).at_ k = a.at_ k
  rw [c_at]; simp
theorem ps_mul_comm (a b : Ser) : a * b = b * a := Ser.ext fun k => conv_comm _ _ _
theorem ps_mul_assoc (a b c : Ser) : a * b * c = a * (b * c) := Ser.ext fun k => conv_assoc _ _ _ _
theorem ps_mul_add (a b c : Ser) : a * (b + c) = a * b + a * c := Ser.ext fun k => conv_add _ _ _ _
theorem ps_add_mul (a b c : Ser) : (a + b) * c = a * c + b * c := Ser.ext fun k => conv_add' _ _ _ _
theorem ps_one_mul (a : Ser) : 1 * a = a := Ser.ext fun k => conv_one _ _
theorem ps_mul_one (a : Ser) : a * 1 = a := by rw [ps_mul_comm, ps_one_mul]
theorem ps_zero_mul (a : Ser) : 0 * a = 0 := Ser.ext fun k => by
  show conv (fun k => if k = 0 then ((0 : Nat) : Int) else 0) a.at_ k = (Ser.c ((0 : Nat) : Int)).at_ k
  have e : (fun k => if k = 0 then ((0 : Nat) : Int) else 0) = fun _ => 0 := by funext j; simp
  rw [e, conv_zero, c_at]; simp
theorem ps_mul_zero (a : Ser) : a * 0 = 0 := by rw [ps_mul_comm, ps_zero_mul]
theorem ps_neg_add (a : Ser) : -a + a = 0 := Ser.ext fun k => by
  show - a.at_ k + a.at_ k = (Ser.c ((0 : Nat) : Int)).at_ k
  rw [c_at]; split <;> omega
theorem ps_sub_eq (a b : Ser) : a - b = a + -b := Ser.ext fun k => by
  show a.at_ k - b.at_ k = a.at_ k + - b.at_ k
  omega
theorem ps_c_add (x y : Int) : Ser.c (x + y) = Ser.c x + Ser.c y := Ser.ext fun k => by
  rw [add_at, c_at, c_at, c_at]; split <;> omega
theorem ps_c_neg (x : Int) : Ser.c (-x) = - Ser.c x := Ser.ext fun k => by
  rw [neg_at, c_at, c_at]; split <;> omega
theorem c_mul_at (x : Int) (a : Ser) (k : Nat) : (Ser.c x * a).at_ k = x * a.at_ k := by
  rw [mul_at]
  have e : (Ser.c x).at_ = fun j => x * (if j = 0 then 1 else 0) := by
    funext j; rw [c_at]; split <;> simp
  rw [e, conv_smul', conv_one]
theorem ps_c_mul (x y : Int) : Ser.c (x * y) = Ser.c x * Ser.c y := Ser.ext fun k => by
  rw [c_mul_at, c_at, c_at]; split <;> simp
instance : Lean.Grind.CommRing Ser where
  add_assoc := ps_add_assoc
  add_comm := ps_add_comm
  add_zero := ps_add_zero
  mul_assoc := ps_mul_assoc
  mul_comm := ps_mul_comm
  mul_one := ps_mul_one
  one_mul := ps_one_mul
  left_distrib := ps_mul_add
  right_distrib := ps_add_mul
  zero_mul := ps_zero_mul
  mul_zero := ps_mul_zero
  neg_add_cancel := ps_neg_add
  sub_eq_add_neg := ps_sub_eq
  pow_zero := fun a => rfl
  pow_succ := fun a n => rfl
  ofNat_succ := fun a => by
    show Ser.c ((a + 1 : Nat) : Int) = Ser.c (a : Int) + Ser.c ((1 : Nat) : Int)
    rw [← ps_c_add]; congr 1
  nsmul_eq_natCast_mul := fun n a => rfl
  zsmul_natCast_eq_nsmul := fun n a => rfl
  intCast_ofNat := fun n => rfl
  intCast_neg := fun n => ps_c_neg n
  neg_zsmul := fun i a => by
    show Ser.c (-i) * a = - (Ser.c i * a)
    exact Ser.ext fun k => by rw [neg_at, c_mul_at, c_mul_at]; exact Int.neg_mul _ _
example (a b : Ser) : (a + b) * (a - b) = a * a - b * b := by grind
end K45
namespace K45
/-! forms as lists of entries -/
def co (f : List Int) (k : Nat) : Int := f.getD k 0
theorem co_lt {f : List Int} {k : Nat} (h : k < f.length) : co f k = f[k] := by simp [co, h]
theorem co_ge {f : List Int} {k : Nat} (h : f.length ≤ k) : co f k = 0 := by simp [co, h]
theorem co_get? {f : List Int} {k : Nat} (h : k < f.length) : f[k]? = some (co f k) := by simp [co, h]
theorem co_ext {f g : List Int} (hl : f.length = g.length) (h : ∀ k, co f k = co g k) : f = g := by
  apply List.ext_getElem hl
  intro i h1 h2
  have := h i
  rwa [co_lt h1, co_lt h2] at this
theorem co_cons_zero (c : Int) (t : List Int) : co (c :: t) 0 = c := rfl
theorem co_cons_succ (c : Int) (t : List Int) (k : Nat) : co (c :: t) (k + 1) = co t k := by simp [co]
theorem co_nil (k : Nat) : co [] k = 0 := by simp [co]
def tab (n : Nat) (g : Nat → Int) : List Int := (List.range n).map g
theorem tab_length (n : Nat) (g : Nat → Int) : (tab n g).length = n := by simp [tab]
theorem co_tab (n : Nat) (g : Nat → Int) (k : Nat) : co (tab n g) k = if k < n then g k else 0 := by
  by_cases h : k < n
  · rw [co_lt (by simp [tab, h]), if_pos h]; simp [tab]
  · rw [co_ge (by simp [tab]; omega), if_neg h]
theorem co_map {g : Int → Int} (h0 : g 0 = 0) (f : List Int) (k : Nat) : co (f.map g) k = g (co f k) := by
  by_cases h : k < f.length
  · rw [co_lt (by simpa using h), co_lt h]; simp
  · rw [co_ge (by simpa using h), co_ge (by omega), h0]
def plus (f g : List Int) : List Int := List.zipWith (fun a b => a + b) f g
theorem plus_length (f g : List Int) : (plus f g).length = min f.length g.length := by simp [plus]
theorem co_plus {f g : List Int} (h : f.length = g.length) (k : Nat) : co (plus f g) k = co f k + co g k := by
  by_cases hk : k < f.length
  · rw [co_lt (by rw [plus_length]; omega), co_lt hk, co_lt (by omega)]; simp [plus]
  · rw [co_ge (by rw [plus_length]; omega), co_ge (by omega), co_ge (by omega)]; rfl
def scaled (f : List Int) (c : Int) : List Int := f.map (fun e => c * e)
theorem scaled_length (f : List Int) (c : Int) : (scaled f c).length = f.length := by simp [scaled]
theorem co_scaled (f : List Int) (c : Int) (k : Nat) : co (scaled f c) k = c * co f k := co_map (Int.mul_zero c) f k
def prod (f g : List Int) : List Int := tab (f.length + g.length - 1) (conv (co f) (co g))
theorem prod_length (f g : List Int) : (prod f g).length = f.length + g.length - 1 := tab_length _ _
theorem conv_support {a b : Nat → Int} {m n : Nat} (ha : ∀ k, m ≤ k → a k = 0) (hb : ∀ k, n ≤ k → b k = 0) (hn : 1 ≤ n) (k : Nat) (hk : m + n ≤ k + 1) : conv a b k = 0 := by
  induction k generalizing a m with
  | zero =>
    simp only [conv]
    rw [ha 0 (by omega), Int.zero_mul]
  | succ k ih =>
    simp only [conv]
    by_cases hm : m = 0
    · rw [ha 0 (by omega)]
      have e : (fun j => a (j + 1)) = fun _ => 0 := by funext j; exact ha _ (by omega)
      rw [e, conv_zero]; omega
    · rw [hb (k + 1) (by omega), ih (m := m - 1) (fun j hj => ha (j + 1) (by omega)) (by omega)]
      omega
theorem co_prod {f g : List Int} (hf : 1 ≤ f.length) (hg : 1 ≤ g.length) (k : Nat) : co (prod f g) k = conv (co f) (co g) k := by
  unfold prod
  rw [co_tab]
  split
  · rfl
  · exact (conv_support (m := f.length) (n := g.length) (fun j hj => co_ge hj) (fun j hj => co_ge hj) hg k (by omega)).symm
def dX (f : List Int) : List Int := tab (f.length - 1) (fun i => co f i * ((f.length : Int) - 1 - (i : Int)))
def dY (f : List Int) : List Int := tab (f.length - 1) (fun i => co f (i + 1) * ((i : Int) + 1))
theorem dX_length (f : List Int) : (dX f).length = f.length - 1 := tab_length _ _
theorem dY_length (f : List Int) : (dY f).length = f.length - 1 := tab_length _ _
theorem co_dX (f : List Int) (k : Nat) : co (dX f) k = co f k * ((f.length : Int) - 1 - (k : Int)) := by
  unfold dX
  rw [co_tab]
  by_cases h : k < f.length - 1
  · rw [if_pos h]
  · rw [if_neg h]
    by_cases h2 : k < f.length
    · have e : (f.length : Int) - 1 - (k : Int) = 0 := by omega
      rw [e, Int.mul_zero]
    · rw [co_ge (by omega), Int.zero_mul]
theorem co_dY (f : List Int) (k : Nat) : co (dY f) k = co f (k + 1) * ((k : Int) + 1) := by
  unfold dY
  rw [co_tab]
  by_cases h : k < f.length - 1
  · rw [if_pos h]
  · rw [if_neg h, co_ge (by omega), Int.zero_mul]
theorem dXY_comm (f : List Int) : dX (dY f) = dY (dX f) := by
  apply co_ext
  · rw [dX_length, dY_length, dY_length, dX_length]
  · intro k
    rw [co_dX, co_dY, co_dY, co_dX, dY_length]
    by_cases h : f.length = 0
    · rw [co_ge (by omega)]; simp
    · have e : ((f.length - 1 : Nat) : Int) - 1 - (k : Int) = (f.length : Int) - 1 - ((k + 1 : Nat) : Int) := by omega
      rw [e]
      rw [Int.mul_assoc, Int.mul_assoc, Int.mul_comm ((k : Int) + 1)]
def cp (f : List Int) : Ser := ⟨co f⟩
theorem cp_ext {f g : List Int} (hl : f.length = g.length) (h : cp f = cp g) : f = g := co_ext hl fun k => congrArg (fun p => p.at_ k) h
theorem cp_plus {f g : List Int} (h : f.length = g.length) : cp (plus f g) = cp f + cp g := Ser.ext fun k => co_plus h k
theorem cp_scaled (f : List Int) (c : Int) : cp (scaled f c) = Ser.c c * cp f := Ser.ext fun k => by
  rw [c_mul_at]; exact co_scaled f c k
theorem cp_prod {f g : List Int} (hf : 1 ≤ f.length) (hg : 1 ≤ g.length) : cp (prod f g) = cp f * cp g := Ser.ext fun k => co_prod hf hg k
theorem dX_plus {f g : List Int} (h : f.length = g.length) : dX (plus f g) = plus (dX f) (dX g) := by
  have hl : (dX f).length = (dX g).length := by rw [dX_length, dX_length, h]
  apply co_ext
  · simp [dX_length, plus_length]; omega
  · intro k
    rw [co_dX, co_plus hl, co_dX, co_dX, co_plus h, plus_length, ← h, Nat.min_self, Int.add_mul]
theorem dY_plus {f g : List Int} (h : f.length = g.length) : dY (plus f g) = plus (dY f) (dY g) := by
  have hl : (dY f).length = (dY g).length := by rw [dY_length, dY_length, h]
  apply co_ext
  · simp [dY_length, plus_length]; omega
  · intro k
    rw [co_dY, co_plus hl, co_dY, co_dY, co_plus h, Int.add_mul]
theorem dX_scaled (f : List Int) (c : Int) : dX (scaled f c) = scaled (dX f) c := by
  apply co_ext
  · simp [dX_length, scaled_length]
  · intro k
    rw [co_dX, co_scaled, co_scaled, co_dX, scaled_length, Int.mul_assoc]
theorem dY_scaled (f : List Int) (c : Int) : dY (scaled f c) = scaled (dY f) c := by
  apply co_ext
  · simp [dY_length, scaled_length]
  · intro k
    rw [co_dY, co_scaled, co_scaled, co_dY, Int.mul_assoc]
/-! ### the laying by the sign of Omega -/
def om : Nat → List Int → List Int → Ser
  | 0, f, g => cp f * cp g
  | k + 1, f, g => om k (dX f) (dY g) - om k (dY f) (dX g)
theorem om_addL : ∀ (k : Nat) {f f' : List Int} (g : List Int), f.length = f'.length → om k (plus f f') g = om k f g + om k f' g
  | 0, f, f', g, h => by simp only [om]; rw [cp_plus h]; grind
  | k + 1, f, f', g, h => by
    simp only [om]
    have h1 : (dX f).length = (dX f').length := by rw [dX_length, dX_length, h]
    have h2 : (dY f).length = (dY f').length := by rw [dY_length, dY_length, h]
    rw [dX_plus h, dY_plus h, om_addL k _ h1, om_addL k _ h2]
    grind
theorem om_addR : ∀ (k : Nat) (f : List Int) {g g' : List Int}, g.length = g'.length → om k f (plus g g') = om k f g + om k f g'
  | 0, f, g, g', h => by simp only [om]; rw [cp_plus h]; grind
  | k + 1, f, g, g', h => by
    simp only [om]
    have h1 : (dX g).length = (dX g').length := by rw [dX_length, dX_length, h]
    have h2 : (dY g).length = (dY g').length := by rw [dY_length, dY_length, h]
    rw [dX_plus h, dY_plus h, om_addR k _ h1, om_addR k _ h2]
    grind
theorem om_smulL : ∀ (k : Nat) (f g : List Int) (c : Int), om k (scaled f c) g = Ser.c c * om k f g
  | 0, f, g, c => by simp only [om]; rw [cp_scaled]; grind
  | k + 1, f, g, c => by
    simp only [om]
    rw [dX_scaled, dY_scaled, om_smulL, om_smulL]; grind
theorem om_smulR : ∀ (k : Nat) (f g : List Int) (c : Int), om k f (scaled g c) = Ser.c c * om k f g
  | 0, f, g, c => by simp only [om]; rw [cp_scaled]; grind
  | k + 1, f, g, c => by
    simp only [om]
    rw [dX_scaled, dY_scaled, om_smulR, om_smulR]; grind
end K45
namespace K45
def der (a : Ser) : Ser := ⟨fun k => ((k : Int) + 1) * a.at_ (k + 1)⟩
def yy : Ser := ⟨fun k => if k = 1 then 1 else 0⟩
theorem y_mul_at (a : Ser) (k : Nat) : (yy * a).at_ k = if k = 0 then 0 else a.at_ (k - 1) := by
  rw [mul_at]
  cases k with
  | zero => simp [conv, yy]
  | succ k =>
    simp only [conv]
    have e : (fun j => yy.at_ (j + 1)) = fun j => if j = 0 then 1 else 0 := by funext j; simp [yy]
    rw [e, conv_one]; simp [yy]
theorem der_add (a b : Ser) : der (a + b) = der a + der b := Ser.ext fun k => by
  show ((k : Int) + 1) * (a.at_ (k + 1) + b.at_ (k + 1)) = _
  rw [Int.mul_add]; rfl
theorem der_smul (c : Int) (a : Ser) : der (Ser.c c * a) = Ser.c c * der a := Ser.ext fun k => by
  rw [c_mul_at]
  show ((k : Int) + 1) * (Ser.c c * a).at_ (k + 1) = c * (((k : Int) + 1) * a.at_ (k + 1))
  rw [c_mul_at, Int.mul_left_comm]
theorem der_c (c : Int) : der (Ser.c c) = 0 := Ser.ext fun k => by
  show ((k : Int) + 1) * (Ser.c c).at_ (k + 1) = (Ser.c ((0 : Nat) : Int)).at_ k
  rw [c_at, c_at]; simp
theorem der_y : der yy = 1 := Ser.ext fun k => by
  show ((k : Int) + 1) * (if k + 1 = 1 then 1 else 0) = (Ser.c ((1 : Nat) : Int)).at_ k
  rw [c_at]
  cases k <;> simp
theorem conv_der (a b : Nat → Int) (k : Nat) : ((k : Int) + 1) * conv a b (k + 1) = conv (fun j => ((j : Int) + 1) * a (j + 1)) b k + conv a (fun j => ((j : Int) + 1) * b (j + 1)) k := by
  induction k generalizing a with
  | zero => simp [conv]; grind
  | succ k ih =>
    have h := ih (fun j => a (j + 1))
    have e1 : conv a b (k + 1 + 1) = a 0 * b (k + 1 + 1) + conv (fun j : Nat => a (j + 1)) b (k + 1) := rfl
    have e2 : conv (fun j : Nat => a (j + 1)) b (k + 1) = a 1 * b (k + 1) + conv (fun j : Nat => a (j + 1 + 1)) b k := rfl
    have e3 : conv (fun j : Nat => ((j : Int) + 1) * a (j + 1)) b (k + 1) = (((0 : Nat) : Int) + 1) * a 1 * b (k + 1) + conv (fun j : Nat => (((j + 1 : Nat) : Int) + 1) * a (j + 1 + 1)) b k := rfl
    have e4 : conv a (fun j : Nat => ((j : Int) + 1) * b (j + 1)) (k + 1) = a 0 * ((((k + 1 : Nat) : Int) + 1) * b (k + 1 + 1)) + conv (fun j : Nat => a (j + 1)) (fun j : Nat => ((j : Int) + 1) * b (j + 1)) k := rfl
    have e : (fun j : Nat => (((j + 1 : Nat) : Int) + 1) * a (j + 1 + 1)) = fun j : Nat => ((j : Int) + 1) * a (j + 1 + 1) + a (j + 1 + 1) := by
      funext j
      have : ((j + 1 : Nat) : Int) = (j : Int) + 1 := by omega
      rw [this]; grind
    have e5 : ((k + 1 : Nat) : Int) = (k : Int) + 1 := by omega
    rw [e1, e3, e4, e, conv_add', e5]
    generalize conv (fun j : Nat => a (j + 1)) (fun j : Nat => ((j : Int) + 1) * b (j + 1)) k = c1 at *
    generalize conv (fun j : Nat => ((j : Int) + 1) * a (j + 1 + 1)) b k = c2 at *
    generalize conv (fun j : Nat => a (j + 1)) b (k + 1) = c3 at *
    generalize conv (fun j : Nat => a (j + 1 + 1)) b k = c4 at *
    simp only [Int.natCast_zero, Int.zero_add, Int.one_mul]
    clear e1 e3 e4 e e5 ih
    grind
theorem der_mul (a b : Ser) : der (a * b) = der a * b + a * der b := Ser.ext fun k => conv_der _ _ k
theorem der_pow (a : Ser) (n : Nat) : der (a ^ (n + 1)) = Ser.c ((n : Int) + 1) * (a ^ n * der a) := by
  induction n with
  | zero =>
    have e : a ^ (0 + 1) = a := by grind
    rw [e]
    have e2 : Ser.c (((0 : Nat) : Int) + 1) = 1 := rfl
    have e3 : a ^ 0 = 1 := by grind
    rw [e2, e3]; grind
  | succ n ih =>
    have e : a ^ (n + 1 + 1) = a ^ (n + 1) * a := by grind
    rw [e, der_mul, ih]
    have e3 : (((n + 1 : Nat) : Int) + 1) = ((n : Int) + 1) + 1 := by omega
    rw [e3, ps_c_add ((n : Int) + 1) 1]
    have e4 : a ^ (n + 1) = a ^ n * a := by grind
    have e5 : Ser.c 1 = 1 := rfl
    rw [e4, e5]; grind
theorem cp_dY (f : List Int) : cp (dY f) = der (cp f) := Ser.ext fun k => by
  show co (dY f) k = ((k : Int) + 1) * co f (k + 1)
  rw [co_dY, Int.mul_comm]
theorem cp_dX (f : List Int) : cp (dX f) = Ser.c ((f.length : Int) - 1) * cp f - yy * der (cp f) := Ser.ext fun k => by
  rw [sub_at, c_mul_at, y_mul_at]
  show co (dX f) k = ((f.length : Int) - 1) * co f k - if k = 0 then 0 else (((k - 1 : Nat) : Int) + 1) * co f (k - 1 + 1)
  rw [co_dX]
  cases k with
  | zero => simp; grind
  | succ k =>
    simp only [Nat.add_sub_cancel, Nat.succ_ne_zero, if_false]
    have e : ((k + 1 : Nat) : Int) = (k : Int) + 1 := by omega
    rw [e]; grind
theorem cp_pair (p q : Int) : cp [p, q] = Ser.c p + Ser.c q * yy := Ser.ext fun k => by
  rw [add_at, c_mul_at, c_at]
  show co [p, q] k = _ + q * (if k = 1 then 1 else 0)
  match k with
  | 0 => simp [co]
  | 1 => simp [co]
  | k + 2 => simp [co]
/-! ### the change -/
def chg (A B : Ser) : List Int → Ser
  | [] => 0
  | c :: t => Ser.c c * A ^ t.length + B * chg A B t
theorem c_zero : Ser.c 0 = 0 := rfl
theorem chg_plus (A B : Ser) : ∀ {f g : List Int}, f.length = g.length → chg A B (plus f g) = chg A B f + chg A B g
  | [], [], _ => by show (0 : Ser) = 0 + 0; grind
  | [], _ :: _, h => by simp at h
  | _ :: _, [], h => by simp at h
  | c :: t, d :: u, h => by
    have h' : t.length = u.length := by simpa using h
    have e : plus (c :: t) (d :: u) = (c + d) :: plus t u := rfl
    rw [e]
    simp only [chg]
    rw [chg_plus A B h', plus_length, ← h', Nat.min_self, ps_c_add]
    grind
theorem chg_scaled (A B : Ser) (c : Int) : ∀ f : List Int, chg A B (scaled f c) = Ser.c c * chg A B f
  | [] => by show (0 : Ser) = Ser.c c * 0; grind
  | d :: t => by
    have e : scaled (d :: t) c = (c * d) :: scaled t c := rfl
    rw [e]
    simp only [chg]
    rw [chg_scaled A B c t, scaled_length, ps_c_mul]
    grind
theorem chg_snoc (A B : Ser) : ∀ f : List Int, chg A B (f ++ [0]) = A * chg A B f
  | [] => by
    show Ser.c 0 * A ^ ([] : List Int).length + B * 0 = A * 0
    rw [c_zero]; grind
  | c :: t => by
    have e : (c :: t) ++ [0] = c :: (t ++ [0]) := rfl
    rw [e]
    simp only [chg]
    rw [chg_snoc A B t]
    have e2 : (t ++ [0]).length = t.length + 1 := by simp
    have e3 : A ^ (t.length + 1) = A ^ t.length * A := by grind
    rw [e2, e3]; grind
theorem chg_zeros (A B : Ser) : ∀ (n : Nat) (f : List Int), chg A B (f ++ List.replicate n 0) = A ^ n * chg A B f
  | 0, f => by
    have e : f ++ List.replicate 0 (0 : Int) = f := by simp
    have e2 : A ^ 0 = 1 := by grind
    rw [e, e2]; grind
  | n + 1, f => by
    have e : f ++ List.replicate (n + 1) (0 : Int) = (f ++ [0]) ++ List.replicate n 0 := by simp [List.replicate_succ]
    have e2 : A ^ (n + 1) = A ^ n * A := by grind
    rw [e, chg_zeros A B n, chg_snoc, e2]; grind
theorem co_append_zeros (f : List Int) (n k : Nat) : co (f ++ List.replicate n 0) k = co f k := by
  by_cases h : k < f.length
  · rw [co_lt (by simp; omega), co_lt h, List.getElem_append_left h]
  · by_cases h2 : k < f.length + n
    · rw [co_lt (by simp; omega), co_ge (by omega), List.getElem_append_right (by omega)]; simp
    · rw [co_ge (by simp; omega), co_ge (by omega)]
theorem cp_cons (c : Int) (t : List Int) : cp (c :: t) = Ser.c c + yy * cp t := Ser.ext fun k => by
  rw [add_at, c_at, y_mul_at]
  cases k with
  | zero => show co (c :: t) 0 = _; simp [co]
  | succ k => show co (c :: t) (k + 1) = _; rw [co_cons_succ]; simp [cp]
theorem cp_nil : cp [] = 0 := Ser.ext fun k => by
  show co [] k = (Ser.c ((0 : Nat) : Int)).at_ k
  rw [co_nil, c_at]; simp
theorem prod_cons {c : Int} {t g : List Int} (ht : 1 ≤ t.length) (hg : 1 ≤ g.length) : prod (c :: t) g = plus (scaled g c ++ List.replicate t.length 0) (0 :: prod t g) := by
  have hl : (scaled g c ++ List.replicate t.length (0 : Int)).length = ((0 : Int) :: prod t g).length := by
    simp [scaled_length, prod_length]; omega
  apply cp_ext
  · rw [prod_length, plus_length, hl]; simp [prod_length]; omega
  · rw [cp_prod (by simp) hg, cp_plus hl, cp_cons, cp_cons, cp_prod ht hg]
    have e : cp (scaled g c ++ List.replicate t.length 0) = cp (scaled g c) := Ser.ext fun k => co_append_zeros _ _ _
    rw [e, cp_scaled, c_zero]; grind
theorem chg_prod (A B : Ser) {g : List Int} (hg : 1 ≤ g.length) : ∀ {f : List Int}, 1 ≤ f.length → chg A B (prod f g) = chg A B f * chg A B g
  | [], h => by simp at h
  | [c], _ => by
    have e : prod [c] g = scaled g c := by
      apply cp_ext
      · rw [prod_length, scaled_length]; simp
      · rw [cp_prod (by simp) hg, cp_scaled, cp_cons, cp_nil]; grind
    rw [e, chg_scaled]
    have e2 : chg A B [c] = Ser.c c * A ^ 0 + B * 0 := rfl
    have e3 : A ^ 0 = 1 := by grind
    rw [e2, e3]; grind
  | c :: d :: t, _ => by
    rw [prod_cons (by simp) hg]
    have hl : (scaled g c ++ List.replicate (d :: t).length (0 : Int)).length = ((0 : Int) :: prod (d :: t) g).length := by
      simp [scaled_length, prod_length]; omega
    rw [chg_plus A B hl, chg_zeros, chg_scaled]
    have e : chg A B (0 :: prod (d :: t) g) = Ser.c 0 * A ^ (prod (d :: t) g).length + B * chg A B (prod (d :: t) g) := rfl
    rw [e, chg_prod A B hg (f := d :: t) (by simp), c_zero]
    have e2 : chg A B (c :: d :: t) = Ser.c c * A ^ (d :: t).length + B * chg A B (d :: t) := rfl
    rw [e2]; grind
theorem dX_cons {c : Int} {t : List Int} (ht : 1 ≤ t.length) : dX (c :: t) = (c * (t.length : Int)) :: dX t := by
  apply co_ext
  · simp [dX_length]; omega
  · intro k
    cases k with
    | zero => rw [co_dX, co_cons_zero, co_cons_zero]; simp
    | succ k =>
      rw [co_dX, co_cons_succ, co_cons_succ, co_dX]
      have e : ((c :: t).length : Int) - 1 - ((k + 1 : Nat) : Int) = (t.length : Int) - 1 - (k : Int) := by simp; omega
      rw [e]
theorem dY_cons {c : Int} {t : List Int} (ht : 1 ≤ t.length) : dY (c :: t) = plus t (0 :: dY t) := by
  have hl : t.length = ((0 : Int) :: dY t).length := by simp [dY_length]; omega
  apply co_ext
  · rw [plus_length, ← hl]; simp [dY_length]
  · intro k
    rw [co_plus hl, co_dY, co_cons_succ]
    cases k with
    | zero => rw [co_cons_zero]; simp
    | succ k =>
      rw [co_cons_succ, co_dY]
      have e : ((k + 1 : Nat) : Int) = (k : Int) + 1 := by omega
      rw [e]; grind
theorem der_chg (p q r s : Int) {A B : Ser} (hA : A = Ser.c p + Ser.c q * yy) (hB : B = Ser.c r + Ser.c s * yy) :
    ∀ f : List Int, der (chg A B f) = Ser.c q * chg A B (dX f) + Ser.c s * chg A B (dY f)
  | [] => by
    show der (Ser.c 0) = Ser.c q * chg A B (dX []) + Ser.c s * chg A B (dY [])
    rw [der_c]
    show (0 : Ser) = Ser.c q * 0 + Ser.c s * 0
    grind
  | [c] => by
    have e1 : chg A B [c] = Ser.c c := by
      show Ser.c c * A ^ 0 + B * 0 = Ser.c c
      have e3 : A ^ 0 = 1 := by grind
      rw [e3]; grind
    rw [e1, der_c]
    show (0 : Ser) = Ser.c q * 0 + Ser.c s * 0
    grind
  | c :: d :: t => by
    rw [dX_cons (by simp), dY_cons (by simp)]
    have hl : (d :: t).length = ((0 : Int) :: dY (d :: t)).length := by simp [dY_length]
    rw [chg_plus A B hl]
    have dA : der A = Ser.c q := by
      rw [hA, der_add, der_c, der_mul, der_c, der_y]; grind
    have dB : der B = Ser.c s := by
      rw [hB, der_add, der_c, der_mul, der_c, der_y]; grind
    have ih := der_chg p q r s hA hB (d :: t)
    have e1 : chg A B (c :: d :: t) = Ser.c c * A ^ (d :: t).length + B * chg A B (d :: t) := rfl
    have e2 : chg A B ((c * ((d :: t).length : Int)) :: dX (d :: t)) = Ser.c (c * ((d :: t).length : Int)) * A ^ (dX (d :: t)).length + B * chg A B (dX (d :: t)) := rfl
    have e3 : chg A B ((0 : Int) :: dY (d :: t)) = Ser.c 0 * A ^ (dY (d :: t)).length + B * chg A B (dY (d :: t)) := rfl
    have e4 : (dX (d :: t)).length = t.length := by simp [dX_length]
    have e5 : (d :: t).length = t.length + 1 := rfl
    rw [e1, e2, e3, c_zero, e4, e5, der_add, der_mul, der_mul, der_c, der_pow, ih, dA, dB, ps_c_mul]
    have e6 : (((t.length + 1 : Nat) : Int)) = (t.length : Int) + 1 := by omega
    rw [e6]
    grind
theorem eul_chg (p q r s : Int) {A B : Ser} (hA : A = Ser.c p + Ser.c q * yy) (hB : B = Ser.c r + Ser.c s * yy) :
    ∀ f : List Int, 1 ≤ f.length → Ser.c ((f.length : Int) - 1) * chg A B f - yy * der (chg A B f) = Ser.c p * chg A B (dX f) + Ser.c r * chg A B (dY f)
  | [], h => by simp at h
  | [c], _ => by
    have e1 : chg A B [c] = Ser.c c := by
      show Ser.c c * A ^ 0 + B * 0 = Ser.c c
      have e3 : A ^ 0 = 1 := by grind
      rw [e3]; grind
    rw [e1, der_c]
    show Ser.c (((1 : Nat) : Int) - 1) * Ser.c c - yy * 0 = Ser.c p * 0 + Ser.c r * 0
    have e : ((1 : Nat) : Int) - 1 = 0 := rfl
    rw [e, c_zero]; grind
  | c :: d :: t, _ => by
    rw [dX_cons (by simp), dY_cons (by simp)]
    have hl : (d :: t).length = ((0 : Int) :: dY (d :: t)).length := by simp [dY_length]
    rw [chg_plus A B hl]
    have dA : der A = Ser.c q := by
      rw [hA, der_add, der_c, der_mul, der_c, der_y]; grind
    have dB : der B = Ser.c s := by
      rw [hB, der_add, der_c, der_mul, der_c, der_y]; grind
    have ih := eul_chg p q r s hA hB (d :: t) (by simp)
    have e1 : chg A B (c :: d :: t) = Ser.c c * A ^ (d :: t).length + B * chg A B (d :: t) := rfl
    have e2 : chg A B ((c * ((d :: t).length : Int)) :: dX (d :: t)) = Ser.c (c * ((d :: t).length : Int)) * A ^ (dX (d :: t)).length + B * chg A B (dX (d :: t)) := rfl
    have e3 : chg A B ((0 : Int) :: dY (d :: t)) = Ser.c 0 * A ^ (dY (d :: t)).length + B * chg A B (dY (d :: t)) := rfl
    have e4 : (dX (d :: t)).length = t.length := by simp [dX_length]
    have e5 : (d :: t).length = t.length + 1 := rfl
    have e6 : (((t.length + 1 : Nat) : Int)) = (t.length : Int) + 1 := by omega
    have e7 : ((c :: d :: t).length : Int) - 1 = (t.length : Int) + 1 := by simp
    have e8 : (((d :: t).length : Nat) : Int) - 1 = (t.length : Int) := by simp
    rw [e8] at ih
    rw [e1, e2, e3, c_zero, e4, e7, e5, der_add, der_mul, der_mul, der_c, der_pow, dA, dB, ps_c_mul, e6, ps_c_add (t.length : Int) 1]
    have e9 : Ser.c 1 = 1 := rfl
    have e10 : A ^ (t.length + 1) = A ^ t.length * A := by grind
    rw [e9, e10]
    generalize chg A B (d :: t) = C at *
    generalize chg A B (dX (d :: t)) = CX at *
    generalize chg A B (dY (d :: t)) = CY at *
    generalize der C = DC at *
    generalize A ^ t.length = AN at *
    generalize Ser.c (t.length : Int) = N at *
    have hA' : Ser.c p = A - Ser.c q * yy := by grind
    have hB' : Ser.c r = B - Ser.c s * yy := by grind
    grind
end K45
namespace K45
/-! ### changing, as the law does it -/
def powL (a : List Int) : Nat → List Int
  | 0 => [1]
  | n + 1 => prod (powL a n) a
theorem powL_length {a : List Int} (ha : 1 ≤ a.length) (n : Nat) : (powL a n).length = n * (a.length - 1) + 1 := by
  induction n with
  | zero => simp [powL]
  | succ n ih => rw [powL, prod_length, ih, Nat.add_mul]; omega
theorem powL_length2 {a : List Int} (ha : a.length = 2) (n : Nat) : (powL a n).length = n + 1 := by
  rw [powL_length (by omega), ha]; omega
theorem powL_pos {a : List Int} (ha : 1 ≤ a.length) (n : Nat) : 1 ≤ (powL a n).length := by
  rw [powL_length ha]; omega
theorem cp_powL {a : List Int} (ha : 1 ≤ a.length) (n : Nat) : cp (powL a n) = cp a ^ n := by
  induction n with
  | zero =>
    have e : cp a ^ 0 = 1 := by grind
    rw [e]
    show cp [1] = 1
    rw [cp_cons, cp_nil]
    have e5 : Ser.c 1 = 1 := rfl
    rw [e5]; grind
  | succ n ih =>
    rw [powL, cp_prod (powL_pos ha n) ha, ih]; grind
def zeros (n : Nat) : List Int := List.replicate n 0
theorem zeros_length (n : Nat) : (zeros n).length = n := by simp [zeros]
theorem co_zeros (n k : Nat) : co (zeros n) k = 0 := by
  by_cases h : k < n
  · rw [co_lt (by simpa [zeros] using h)]; simp [zeros]
  · rw [co_ge (by simp [zeros]; omega)]
theorem cp_zeros (n : Nat) : cp (zeros n) = 0 := Ser.ext fun k => by
  show co (zeros n) k = (Ser.c ((0 : Nat) : Int)).at_ k
  rw [co_zeros, c_at]; simp
def piece (a b f : List Int) (i : Nat) : List Int := prod (powL a (f.length - 1 - i)) (powL b i)
def changedN (a b f : List Int) : Nat → List Int
  | 0 => zeros f.length
  | i + 1 => plus (changedN a b f i) (scaled (piece a b f i) (co f i))
def changed (a b f : List Int) : List Int := changedN a b f f.length
section
variable {a b : List Int} (ha : a.length = 2) (hb : b.length = 2)
include ha hb
theorem piece_length (f : List Int) {i : Nat} (hi : i < f.length) : (piece a b f i).length = f.length := by
  rw [piece, prod_length, powL_length2 ha, powL_length2 hb]; omega
theorem changedN_length (f : List Int) : ∀ {i : Nat}, i ≤ f.length → (changedN a b f i).length = f.length
  | 0, _ => zeros_length _
  | i + 1, h => by
    rw [changedN, plus_length, scaled_length, changedN_length f (i := i) (by omega), piece_length ha hb f (by omega)]; omega
theorem changed_length (f : List Int) : (changed a b f).length = f.length := changedN_length ha hb f (Nat.le_refl _)
theorem cp_changedN_succ (f : List Int) {i : Nat} (h : i < f.length) : cp (changedN a b f (i + 1)) = cp (changedN a b f i) + Ser.c (co f i) * (cp a ^ (f.length - 1 - i) * cp b ^ i) := by
  rw [changedN, cp_plus (by rw [changedN_length ha hb f (by omega), scaled_length, piece_length ha hb f h]), cp_scaled, piece, cp_prod (powL_pos (by omega) _) (powL_pos (by omega) _), cp_powL (by omega), cp_powL (by omega)]
theorem cp_changedN_cons (c : Int) (t : List Int) : ∀ {i : Nat}, i ≤ t.length → cp (changedN a b (c :: t) (i + 1)) = Ser.c c * cp a ^ t.length + cp b * cp (changedN a b t i)
  | 0, h => by
    rw [cp_changedN_succ ha hb (c :: t) (by simp)]
    have e : changedN a b (c :: t) 0 = zeros (t.length + 1) := rfl
    have e2 : changedN a b t 0 = zeros t.length := rfl
    have e3 : (c :: t).length - 1 - 0 = t.length := by simp
    have e4 : cp b ^ 0 = 1 := by grind
    rw [e, e2, cp_zeros, cp_zeros, e3, co_cons_zero, e4]; grind
  | i + 1, h => by
    rw [cp_changedN_succ ha hb (c :: t) (by simp; omega), cp_changedN_cons c t (i := i) (by omega), cp_changedN_succ ha hb t (by omega), co_cons_succ]
    have e3 : (c :: t).length - 1 - (i + 1) = t.length - 1 - i := by simp; omega
    have e4 : cp b ^ (i + 1) = cp b ^ i * cp b := by grind
    rw [e3, e4]; grind
theorem cp_changed : ∀ f : List Int, cp (changed a b f) = chg (cp a) (cp b) f
  | [] => cp_zeros 0
  | c :: t => by
    show cp (changedN a b (c :: t) (t.length + 1)) = Ser.c c * cp a ^ t.length + cp b * chg (cp a) (cp b) t
    rw [cp_changedN_cons ha hb c t (Nat.le_refl _)]
    have ih := cp_changed t
    rw [← ih]; rfl
end
section
variable (p q r s : Int)
def det2 : Int := p * s - q * r
theorem dX_changed (f : List Int) (hf : 1 ≤ f.length) : dX (changed [p, q] [r, s] f) = plus (scaled (changed [p, q] [r, s] (dX f)) p) (scaled (changed [p, q] [r, s] (dY f)) r) := by
  have hl : (scaled (changed [p, q] [r, s] (dX f)) p).length = (scaled (changed [p, q] [r, s] (dY f)) r).length := by
    rw [scaled_length, scaled_length, changed_length rfl rfl, changed_length rfl rfl, dX_length, dY_length]
  apply cp_ext
  · rw [plus_length, ← hl, scaled_length, changed_length rfl rfl, dX_length, dX_length, changed_length rfl rfl, Nat.min_self]
  · rw [cp_plus hl, cp_scaled, cp_scaled, cp_dX, changed_length rfl rfl, cp_changed rfl rfl, cp_changed rfl rfl, cp_changed rfl rfl, cp_pair, cp_pair]
    exact eul_chg p q r s rfl rfl f hf
theorem dY_changed (f : List Int) : dY (changed [p, q] [r, s] f) = plus (scaled (changed [p, q] [r, s] (dX f)) q) (scaled (changed [p, q] [r, s] (dY f)) s) := by
  have hl : (scaled (changed [p, q] [r, s] (dX f)) q).length = (scaled (changed [p, q] [r, s] (dY f)) s).length := by
    rw [scaled_length, scaled_length, changed_length rfl rfl, changed_length rfl rfl, dX_length, dY_length]
  apply cp_ext
  · rw [plus_length, ← hl, scaled_length, changed_length rfl rfl, dY_length, dX_length, changed_length rfl rfl, Nat.min_self]
  · rw [cp_plus hl, cp_scaled, cp_scaled, cp_dY, cp_changed rfl rfl, cp_changed rfl rfl, cp_changed rfl rfl, cp_pair, cp_pair]
    exact der_chg p q r s rfl rfl f
/-- the laying, changed -/
def chom (A B : Ser) : Nat → List Int → List Int → Ser
  | 0, f, g => chg A B f * chg A B g
  | k + 1, f, g => chom A B k (dX f) (dY g) - chom A B k (dY f) (dX g)
theorem om_changed : ∀ (k : Nat) (f g : List Int), k < f.length → k < g.length →
    om k (changed [p, q] [r, s] f) (changed [p, q] [r, s] g) = Ser.c (det2 p q r s) ^ k * chom (cp [p, q]) (cp [r, s]) k f g
  | 0, f, g, _, _ => by
    simp only [om, chom]
    have e : Ser.c (det2 p q r s) ^ 0 = 1 := by grind
    rw [cp_changed rfl rfl, cp_changed rfl rfl, e]; grind
  | k + 1, f, g, hf, hg => by
    have hx : ∀ (f : List Int) (c d : Int), (scaled (changed [p, q] [r, s] (dX f)) c).length = (scaled (changed [p, q] [r, s] (dY f)) d).length := fun f c d => by
      rw [scaled_length, scaled_length, changed_length rfl rfl, changed_length rfl rfl, dX_length, dY_length]
    have hfx : k < (dX f).length := by rw [dX_length]; omega
    have hfy : k < (dY f).length := by rw [dY_length]; omega
    have hgx : k < (dX g).length := by rw [dX_length]; omega
    have hgy : k < (dY g).length := by rw [dY_length]; omega
    simp only [om, chom]
    rw [dX_changed p q r s f (by omega), dY_changed p q r s f, dX_changed p q r s g (by omega), dY_changed p q r s g]
    rw [om_addL k _ (hx f _ _), om_addL k _ (hx f _ _)]
    rw [om_addR k _ (hx g _ _), om_addR k _ (hx g _ _), om_addR k _ (hx g _ _), om_addR k _ (hx g _ _)]
    simp only [om_smulL, om_smulR]
    rw [om_changed k _ _ hfx hgx, om_changed k _ _ hfx hgy, om_changed k _ _ hfy hgx, om_changed k _ _ hfy hgy]
    have e : Ser.c (det2 p q r s) ^ (k + 1) = Ser.c (det2 p q r s) ^ k * Ser.c (det2 p q r s) := by grind
    have e2 : Ser.c (det2 p q r s) = Ser.c p * Ser.c s - Ser.c q * Ser.c r := by
      rw [det2, ← ps_c_mul, ← ps_c_mul]
      apply Ser.ext
      intro k
      rw [sub_at, c_at, c_at, c_at]; split <;> omega
    rw [e]
    generalize Ser.c (det2 p q r s) ^ k = D at *
    rw [e2]
    grind
end
/-- a list of the laying by Omega -/
def lay : Nat → List Int → List Int → List Int
  | 0, f, g => prod f g
  | k + 1, f, g => plus (lay k (dX f) (dY g)) (scaled (lay k (dY f) (dX g)) (-1))
theorem lay_length : ∀ (k : Nat) (f g : List Int), k < f.length → k < g.length → (lay k f g).length = f.length + g.length - 1 - 2 * k
  | 0, f, g, hf, hg => by rw [lay, prod_length]; rfl
  | k + 1, f, g, hf, hg => by
    rw [lay, plus_length, scaled_length, lay_length k _ _ (by rw [dX_length]; omega) (by rw [dY_length]; omega), lay_length k _ _ (by rw [dY_length]; omega) (by rw [dX_length]; omega), dX_length, dY_length, dX_length, dY_length]
    omega
theorem lay_two (k : Nat) (f g : List Int) (hf : k + 1 < f.length) (hg : k + 1 < g.length) : (lay k (dX f) (dY g)).length = (scaled (lay k (dY f) (dX g)) (-1)).length := by
  rw [scaled_length, lay_length k _ _ (by rw [dX_length]; omega) (by rw [dY_length]; omega), lay_length k _ _ (by rw [dY_length]; omega) (by rw [dX_length]; omega), dX_length, dY_length, dX_length, dY_length]
theorem c_m1 : Ser.c (-1) = -1 := ps_c_neg 1
theorem cp_lay : ∀ (k : Nat) (f g : List Int), k < f.length → k < g.length → cp (lay k f g) = om k f g
  | 0, f, g, hf, hg => cp_prod (by omega) (by omega)
  | k + 1, f, g, hf, hg => by
    rw [lay, cp_plus (lay_two k f g hf hg), cp_scaled, cp_lay k _ _ (by rw [dX_length]; omega) (by rw [dY_length]; omega), cp_lay k _ _ (by rw [dY_length]; omega) (by rw [dX_length]; omega), c_m1, om]
    grind
theorem chg_lay (A B : Ser) : ∀ (k : Nat) (f g : List Int), k < f.length → k < g.length → chg A B (lay k f g) = chom A B k f g
  | 0, f, g, hf, hg => chg_prod A B (by omega) (by omega)
  | k + 1, f, g, hf, hg => by
    rw [lay, chg_plus A B (lay_two k f g hf hg), chg_scaled, chg_lay A B k _ _ (by rw [dX_length]; omega) (by rw [dY_length]; omega), chg_lay A B k _ _ (by rw [dY_length]; omega) (by rw [dX_length]; omega), c_m1, chom]
    grind
theorem c_pow (x : Int) (n : Nat) : Ser.c (x ^ n) = Ser.c x ^ n := by
  induction n with
  | zero =>
    have e : Ser.c x ^ 0 = 1 := by grind
    rw [e, Int.pow_zero]; rfl
  | succ n ih => rw [Int.pow_succ, ps_c_mul, ih]; grind
theorem lay_changed (p q r s : Int) (k : Nat) (f g : List Int) (hf : k < f.length) (hg : k < g.length) :
    lay k (changed [p, q] [r, s] f) (changed [p, q] [r, s] g) = scaled (changed [p, q] [r, s] (lay k f g)) (det2 p q r s ^ k) := by
  have h1 : k < (changed [p, q] [r, s] f).length := by rw [changed_length rfl rfl]; omega
  have h2 : k < (changed [p, q] [r, s] g).length := by rw [changed_length rfl rfl]; omega
  apply cp_ext
  · rw [lay_length k _ _ h1 h2, scaled_length, changed_length rfl rfl, changed_length rfl rfl, changed_length rfl rfl, lay_length k _ _ hf hg]
  · rw [cp_lay k _ _ h1 h2, om_changed p q r s k f g hf hg, cp_scaled, cp_changed rfl rfl, chg_lay _ _ k f g hf hg, c_pow]
theorem lay_scaledL (k : Nat) (f g : List Int) (c : Int) (hf : k < f.length) (hg : k < g.length) : lay k (scaled f c) g = scaled (lay k f g) c := by
  have h1 : k < (scaled f c).length := by rw [scaled_length]; omega
  apply cp_ext
  · rw [lay_length k _ _ h1 hg, scaled_length, scaled_length, lay_length k _ _ hf hg]
  · rw [cp_lay k _ _ h1 hg, cp_scaled, om_smulL, cp_lay k _ _ hf hg]
theorem lay_scaledR (k : Nat) (f g : List Int) (c : Int) (hf : k < f.length) (hg : k < g.length) : lay k f (scaled g c) = scaled (lay k f g) c := by
  have h1 : k < (scaled g c).length := by rw [scaled_length]; omega
  apply cp_ext
  · rw [lay_length k _ _ hf h1, scaled_length, scaled_length, lay_length k _ _ hf hg]
  · rw [cp_lay k _ _ hf h1, cp_scaled, om_smulR, cp_lay k _ _ hf hg]
theorem scaled_scaled (f : List Int) (c d : Int) : scaled (scaled f c) d = scaled f (d * c) := by
  simp [scaled, Int.mul_assoc]
end K45
namespace K45
def itX : Nat → List Int → List Int
  | 0, f => f
  | n + 1, f => dX (itX n f)
def itY : Nat → List Int → List Int
  | 0, f => f
  | n + 1, f => dY (itY n f)
theorem itX_length (n : Nat) (f : List Int) : (itX n f).length = f.length - n := by
  induction n with
  | zero => rfl
  | succ n ih => rw [itX, dX_length, ih]; omega
theorem itY_length (n : Nat) (f : List Int) : (itY n f).length = f.length - n := by
  induction n with
  | zero => rfl
  | succ n ih => rw [itY, dY_length, ih]; omega
def dXY (f : List Int) (a b : Nat) : List Int := itY b (itX a f)
theorem dXY_length (f : List Int) (a b : Nat) : (dXY f a b).length = f.length - a - b := by
  rw [dXY, itY_length, itX_length]
/-- how many lots: found * (many - at) // (at + 1), so many times -/
def lots (many : Nat) : Nat → Int
  | 0 => 1
  | i + 1 => (lots many i * ((many : Int) - (i : Int))) / ((i : Int) + 1)
def sg (k i : Nat) : Int := if i % 2 = 0 then lots k i else 0 - lots k i
def lpiece (k : Nat) (f g : List Int) (i : Nat) : List Int := prod (dXY f (k - i) i) (dXY g i (k - i))
def laidN (k : Nat) (f g : List Int) : Nat → List Int
  | 0 => zeros (f.length + g.length - 1 - 2 * k)
  | i + 1 => plus (laidN k f g i) (scaled (lpiece k f g i) (sg k i))
def laid (k : Nat) (f g : List Int) : List Int := laidN k f g (k + 1)
section
variable {k : Nat} {f g : List Int} (hf : k < f.length) (hg : k < g.length)
include hf hg
theorem lpiece_length {i : Nat} (hi : i ≤ k) : (lpiece k f g i).length = f.length + g.length - 1 - 2 * k := by
  rw [lpiece, prod_length, dXY_length, dXY_length]; omega
theorem laidN_length : ∀ {i : Nat}, i ≤ k + 1 → (laidN k f g i).length = f.length + g.length - 1 - 2 * k
  | 0, _ => zeros_length _
  | i + 1, h => by
    rw [laidN, plus_length, scaled_length, laidN_length (i := i) (by omega), lpiece_length hf hg (by omega), Nat.min_self]
theorem laid_length : (laid k f g).length = f.length + g.length - 1 - 2 * k := laidN_length hf hg (Nat.le_refl _)
theorem cp_laidN_succ {i : Nat} (h : i ≤ k) : cp (laidN k f g (i + 1)) = cp (laidN k f g i) + Ser.c (sg k i) * (cp (dXY f (k - i) i) * cp (dXY g i (k - i))) := by
  rw [laidN, cp_plus (by rw [laidN_length hf hg (by omega), scaled_length, lpiece_length hf hg h]), cp_scaled, lpiece, cp_prod (by rw [dXY_length]; omega) (by rw [dXY_length]; omega)]
end
theorem om2 (f g : List Int) : om 2 f g = cp (dXY f 2 0) * cp (dXY g 0 2) - 2 * (cp (dXY f 1 1) * cp (dXY g 1 1)) + cp (dXY f 0 2) * cp (dXY g 2 0) := by
  simp only [om, dXY, itX, itY, dXY_comm]
  grind
theorem om4 (f g : List Int) : om 4 f g = cp (dXY f 4 0) * cp (dXY g 0 4) - 4 * (cp (dXY f 3 1) * cp (dXY g 1 3)) + 6 * (cp (dXY f 2 2) * cp (dXY g 2 2)) - 4 * (cp (dXY f 1 3) * cp (dXY g 3 1)) + cp (dXY f 0 4) * cp (dXY g 4 0) := by
  simp only [om, dXY, itX, itY, dXY_comm]
  grind
theorem om6 (f g : List Int) : om 6 f g = cp (dXY f 6 0) * cp (dXY g 0 6) - 6 * (cp (dXY f 5 1) * cp (dXY g 1 5)) + 15 * (cp (dXY f 4 2) * cp (dXY g 2 4)) - 20 * (cp (dXY f 3 3) * cp (dXY g 3 3)) + 15 * (cp (dXY f 2 4) * cp (dXY g 4 2)) - 6 * (cp (dXY f 1 5) * cp (dXY g 5 1)) + cp (dXY f 0 6) * cp (dXY g 6 0) := by
  simp only [om, dXY, itX, itY, dXY_comm]
  grind
theorem laid2 {f g : List Int} (hf : 2 < f.length) (hg : 2 < g.length) : laid 2 f g = lay 2 f g := by
  apply cp_ext
  · rw [laid_length hf hg, lay_length 2 f g hf hg]
  · rw [cp_lay 2 f g hf hg, om2, laid]
    have e0 : laidN 2 f g 0 = zeros (f.length + g.length - 1 - 2 * 2) := rfl
    rw [cp_laidN_succ hf hg (by omega), cp_laidN_succ hf hg (by omega), cp_laidN_succ hf hg (by omega), e0, cp_zeros]
    have s0 : Ser.c (sg 2 0) = 1 := rfl
    have s1 : Ser.c (sg 2 1) = -2 := ps_c_neg 2
    have s2 : Ser.c (sg 2 2) = 1 := rfl
    rw [s0, s1, s2]
    show 0 + 1 * (cp (dXY f 2 0) * cp (dXY g 0 2)) + -2 * (cp (dXY f 1 1) * cp (dXY g 1 1)) + 1 * (cp (dXY f 0 2) * cp (dXY g 2 0)) = _
    grind
theorem laid4 {f g : List Int} (hf : 4 < f.length) (hg : 4 < g.length) : laid 4 f g = lay 4 f g := by
  apply cp_ext
  · rw [laid_length hf hg, lay_length 4 f g hf hg]
  · rw [cp_lay 4 f g hf hg, om4, laid]
    have e0 : laidN 4 f g 0 = zeros (f.length + g.length - 1 - 2 * 4) := rfl
    rw [cp_laidN_succ hf hg (by omega), cp_laidN_succ hf hg (by omega), cp_laidN_succ hf hg (by omega), cp_laidN_succ hf hg (by omega), cp_laidN_succ hf hg (by omega), e0, cp_zeros]
    have s0 : Ser.c (sg 4 0) = 1 := rfl
    have s1 : Ser.c (sg 4 1) = -4 := ps_c_neg 4
    have s2 : Ser.c (sg 4 2) = 6 := rfl
    have s3 : Ser.c (sg 4 3) = -4 := ps_c_neg 4
    have s4 : Ser.c (sg 4 4) = 1 := rfl
    rw [s0, s1, s2, s3, s4]
    show 0 + 1 * (cp (dXY f 4 0) * cp (dXY g 0 4)) + -4 * (cp (dXY f 3 1) * cp (dXY g 1 3)) + 6 * (cp (dXY f 2 2) * cp (dXY g 2 2)) + -4 * (cp (dXY f 1 3) * cp (dXY g 3 1)) + 1 * (cp (dXY f 0 4) * cp (dXY g 4 0)) = _
    grind
theorem laid6 {f g : List Int} (hf : 6 < f.length) (hg : 6 < g.length) : laid 6 f g = lay 6 f g := by
  apply cp_ext
  · rw [laid_length hf hg, lay_length 6 f g hf hg]
  · rw [cp_lay 6 f g hf hg, om6, laid]
    have e0 : laidN 6 f g 0 = zeros (f.length + g.length - 1 - 2 * 6) := rfl
    rw [cp_laidN_succ hf hg (by omega), cp_laidN_succ hf hg (by omega), cp_laidN_succ hf hg (by omega), cp_laidN_succ hf hg (by omega), cp_laidN_succ hf hg (by omega), cp_laidN_succ hf hg (by omega), cp_laidN_succ hf hg (by omega), e0, cp_zeros]
    have s0 : Ser.c (sg 6 0) = 1 := rfl
    have s1 : Ser.c (sg 6 1) = -6 := ps_c_neg 6
    have s2 : Ser.c (sg 6 2) = 15 := rfl
    have s3 : Ser.c (sg 6 3) = -20 := ps_c_neg 20
    have s4 : Ser.c (sg 6 4) = 15 := rfl
    have s5 : Ser.c (sg 6 5) = -6 := ps_c_neg 6
    have s6 : Ser.c (sg 6 6) = 1 := rfl
    rw [s0, s1, s2, s3, s4, s5, s6]
    show 0 + 1 * (cp (dXY f 6 0) * cp (dXY g 0 6)) + -6 * (cp (dXY f 5 1) * cp (dXY g 1 5)) + 15 * (cp (dXY f 4 2) * cp (dXY g 2 4)) + -20 * (cp (dXY f 3 3) * cp (dXY g 3 3)) + 15 * (cp (dXY f 2 4) * cp (dXY g 4 2)) + -6 * (cp (dXY f 1 5) * cp (dXY g 5 1)) + 1 * (cp (dXY f 0 6) * cp (dXY g 6 0)) = _
    grind
end K45
namespace K45
/-! ### the told invariants -/
def inv5 (f : List Int) : List Int := laid 4 f f ++ laid 4 f (laid 2 f f)
def inv6 (f : List Int) : List Int :=
  laid 2 (laid 4 f f) (laid 4 f f) ++ laid 2 (laid 4 f f) (laid 2 (laid 2 f (laid 4 f f)) (laid 2 f (laid 4 f f))) ++ laid 2 (laid 2 (laid 2 f (laid 4 f f)) (laid 2 f (laid 4 f f))) (laid 2 (laid 2 f (laid 4 f f)) (laid 2 f (laid 4 f f)))
def inv7 (f : List Int) : List Int :=
  laid 6 f f ++ laid 4 (laid 4 f f) (laid 4 f f) ++ laid 4 (laid 4 f f) (laid 2 (laid 4 f f) (laid 4 f f)) ++ laid 2 (laid 2 (laid 4 f f) (laid 2 (laid 4 f f) (laid 4 f (laid 4 f f)))) (laid 4 f (laid 4 f f))
def inv (f : List Int) : List Int :=
  if f.length = 3 then laid 2 f f else if f.length = 4 then laid 2 (laid 2 f f) (laid 2 f f) else if f.length = 5 then inv5 f else if f.length = 6 then inv6 f else if f.length = 7 then inv7 f else []
def sizes (d : Nat) : List Nat := if d = 2 then [2] else if d = 3 then [4] else if d = 4 then [2, 3] else if d = 5 then [4, 8, 12] else if d = 6 then [2, 4, 6, 10] else []
theorem powL_zero (a : List Int) : powL a 0 = [1] := rfl
theorem changed_one {a b : List Int} (c : Int) : changed a b [c] = [c] := by
  show plus (zeros 1) (scaled (prod (powL a 0) (powL b 0)) c) = [c]
  show [0 + c * (1 * 1)] = [c]
  simp
section
variable (p q r s : Int)
abbrev ch (f : List Int) : List Int := changed [p, q] [r, s] f
theorem ch_length (f : List Int) : (ch p q r s f).length = f.length := changed_length rfl rfl f
theorem laid2_ch {f g : List Int} (hf : 2 < f.length) (hg : 2 < g.length) : laid 2 (ch p q r s f) (ch p q r s g) = scaled (ch p q r s (laid 2 f g)) (det2 p q r s ^ 2) := by
  rw [laid2 (by rw [ch_length]; exact hf) (by rw [ch_length]; exact hg), laid2 hf hg, lay_changed p q r s 2 f g hf hg]
theorem laid4_ch {f g : List Int} (hf : 4 < f.length) (hg : 4 < g.length) : laid 4 (ch p q r s f) (ch p q r s g) = scaled (ch p q r s (laid 4 f g)) (det2 p q r s ^ 4) := by
  rw [laid4 (by rw [ch_length]; exact hf) (by rw [ch_length]; exact hg), laid4 hf hg, lay_changed p q r s 4 f g hf hg]
theorem laid6_ch {f g : List Int} (hf : 6 < f.length) (hg : 6 < g.length) : laid 6 (ch p q r s f) (ch p q r s g) = scaled (ch p q r s (laid 6 f g)) (det2 p q r s ^ 6) := by
  rw [laid6 (by rw [ch_length]; exact hf) (by rw [ch_length]; exact hg), laid6 hf hg, lay_changed p q r s 6 f g hf hg]
end
theorem laid2_s {f g : List Int} (c d : Int) (hf : 2 < f.length) (hg : 2 < g.length) : laid 2 (scaled f c) (scaled g d) = scaled (laid 2 f g) (d * c) := by
  have h1 : 2 < (scaled f c).length := by rw [scaled_length]; exact hf
  have h2 : 2 < (scaled g d).length := by rw [scaled_length]; exact hg
  rw [laid2 h1 h2, laid2 hf hg, lay_scaledL 2 _ _ _ hf h2, lay_scaledR 2 _ _ _ hf hg, scaled_scaled, Int.mul_comm]
theorem laid4_s {f g : List Int} (c d : Int) (hf : 4 < f.length) (hg : 4 < g.length) : laid 4 (scaled f c) (scaled g d) = scaled (laid 4 f g) (d * c) := by
  have h1 : 4 < (scaled f c).length := by rw [scaled_length]; exact hf
  have h2 : 4 < (scaled g d).length := by rw [scaled_length]; exact hg
  rw [laid4 h1 h2, laid4 hf hg, lay_scaledL 4 _ _ _ hf h2, lay_scaledR 4 _ _ _ hf hg, scaled_scaled, Int.mul_comm]
theorem laid6_s {f g : List Int} (c d : Int) (hf : 6 < f.length) (hg : 6 < g.length) : laid 6 (scaled f c) (scaled g d) = scaled (laid 6 f g) (d * c) := by
  have h1 : 6 < (scaled f c).length := by rw [scaled_length]; exact hf
  have h2 : 6 < (scaled g d).length := by rw [scaled_length]; exact hg
  rw [laid6 h1 h2, laid6 hf hg, lay_scaledL 6 _ _ _ hf h2, lay_scaledR 6 _ _ _ hf hg, scaled_scaled, Int.mul_comm]
theorem scaled_one (f : List Int) : scaled f 1 = f := by simp [scaled]
theorem len1 {f : List Int} (h : f.length = 1) : ∃ c, f = [c] := by
  match f, h with
  | [c], _ => exact ⟨c, rfl⟩
theorem sc1 {f : List Int} (h : f.length = 1) (c : Int) : ∃ x, f = [x] ∧ scaled f c = [c * x] := by
  obtain ⟨x, rfl⟩ := len1 h
  exact ⟨x, rfl, rfl⟩
theorem ch_scaled (p q r s : Int) (f : List Int) (c : Int) : ch p q r s (scaled f c) = scaled (ch p q r s f) c := by
  apply cp_ext
  · rw [ch_length, scaled_length, scaled_length, ch_length]
  · rw [cp_changed rfl rfl, cp_scaled, cp_changed rfl rfl, chg_scaled]
def lw (D : Int) (d : Nat) : List Int := (sizes d).map fun z => D ^ (d * z / 2)
theorem lw2 (D : Int) : lw D 2 = [D ^ 2] := rfl
theorem lw3 (D : Int) : lw D 3 = [D ^ 6] := rfl
theorem lw4 (D : Int) : lw D 4 = [D ^ 4, D ^ 6] := rfl
theorem lw5 (D : Int) : lw D 5 = [D ^ 10, D ^ 20, D ^ 30] := rfl
theorem lw6 (D : Int) : lw D 6 = [D ^ 6, D ^ 12, D ^ 18, D ^ 30] := rfl
theorem zw1 (x y : Int) : List.zipWith (fun w n => w * n) [x] [y] = [x * y] := rfl
theorem zw2 (a b x y : Int) : List.zipWith (fun w n => w * n) [a, b] ([x] ++ [y]) = [a * x, b * y] := rfl
theorem zw3 (a b c x y z : Int) : List.zipWith (fun w n => w * n) [a, b, c] ([x] ++ [y] ++ [z]) = [a * x, b * y, c * z] := rfl
theorem zw4 (a b c d x y z u : Int) : List.zipWith (fun w n => w * n) [a, b, c, d] ([x] ++ [y] ++ [z] ++ [u]) = [a * x, b * y, c * z, d * u] := rfl
theorem ap2 (a b : Int) : [a] ++ [b] = [a, b] := rfl
theorem ap3 (a b c : Int) : [a] ++ [b] ++ [c] = [a, b, c] := rfl
theorem ap4 (a b c d : Int) : [a] ++ [b] ++ [c] ++ [d] = [a, b, c, d] := rfl
/-- the weights by which the invariants move: t a factor of the form, E2, E4, E6 what a laying gives out -/
def wts (t E2 E4 E6 : Int) (d : Nat) : List Int :=
  if d = 2 then [t ^ 2 * E2] else if d = 3 then [t ^ 4 * E2 ^ 3] else if d = 4 then [t ^ 2 * E4, t ^ 3 * E2 * E4]
  else if d = 5 then [t ^ 4 * E4 ^ 2 * E2, t ^ 8 * E4 ^ 3 * E2 ^ 4, t ^ 12 * E4 ^ 4 * E2 ^ 7] else if d = 6 then [t ^ 2 * E6, t ^ 4 * E4 ^ 3, t ^ 6 * E4 ^ 4 * E2, t ^ 10 * E4 ^ 6 * E2 ^ 3] else []
theorem inv_move {m : List Int → List Int} {E2 E4 E6 : Int} (ml : ∀ f, (m f).length = f.length) (m1 : ∀ x, m [x] = [x])
    (m2 : ∀ (u v : List Int) (c d : Int), 2 < u.length → 2 < v.length → laid 2 (scaled (m u) c) (scaled (m v) d) = scaled (m (laid 2 u v)) (d * c * E2))
    (m4 : ∀ (u v : List Int) (c d : Int), 4 < u.length → 4 < v.length → laid 4 (scaled (m u) c) (scaled (m v) d) = scaled (m (laid 4 u v)) (d * c * E4))
    (m6 : ∀ (u v : List Int) (c d : Int), 6 < u.length → 6 < v.length → laid 6 (scaled (m u) c) (scaled (m v) d) = scaled (m (laid 6 u v)) (d * c * E6))
    {f : List Int} {d : Nat} (h : f.length = d + 1) (h1 : 1 ≤ d) (h6 : d ≤ 6) (t : Int) :
    inv (scaled (m f) t) = List.zipWith (fun w n => w * n) (wts t E2 E4 E6 d) (inv f) ∧ (inv f).length = (sizes d).length := by
  have l2 : ∀ (u v : List Int) (a b c : Nat), u.length = a → v.length = b → 2 < a → 2 < b → a + b - 1 - 2 * 2 = c → (laid 2 u v).length = c := fun u v a b c hu hv ha hb hc => by
    rw [laid_length (by omega) (by omega), hu, hv, hc]
  have l4 : ∀ (u v : List Int) (a b c : Nat), u.length = a → v.length = b → 4 < a → 4 < b → a + b - 1 - 2 * 4 = c → (laid 4 u v).length = c := fun u v a b c hu hv ha hb hc => by
    rw [laid_length (by omega) (by omega), hu, hv, hc]
  have l6 : ∀ (u v : List Int) (a b c : Nat), u.length = a → v.length = b → 6 < a → 6 < b → a + b - 1 - 2 * 6 = c → (laid 6 u v).length = c := fun u v a b c hu hv ha hb hc => by
    rw [laid_length (by omega) (by omega), hu, hv, hc]
  have k2 : ∀ {u v : List Int} {a b : Nat} {c d : Int}, u.length = a → v.length = b → 2 < a → 2 < b → laid 2 (scaled (m u) c) (scaled (m v) d) = scaled (m (laid 2 u v)) (d * c * E2) := fun hu hv ha hb => m2 _ _ _ _ (hu ▸ ha) (hv ▸ hb)
  have k4 : ∀ {u v : List Int} {a b : Nat} {c d : Int}, u.length = a → v.length = b → 4 < a → 4 < b → laid 4 (scaled (m u) c) (scaled (m v) d) = scaled (m (laid 4 u v)) (d * c * E4) := fun hu hv ha hb => m4 _ _ _ _ (hu ▸ ha) (hv ▸ hb)
  have k6 : ∀ {u v : List Int} {a b : Nat} {c d : Int}, u.length = a → v.length = b → 6 < a → 6 < b → laid 6 (scaled (m u) c) (scaled (m v) d) = scaled (m (laid 6 u v)) (d * c * E6) := fun hu hv ha hb => m6 _ _ _ _ (hu ▸ ha) (hv ▸ hb)
  have e1 : ∀ (u : List Int) (c : Int), u.length = 1 → ∃ x, u = [x] ∧ scaled (m u) c = [c * x] := fun u c hu => by
    obtain ⟨x, rfl⟩ := len1 hu
    refine ⟨x, rfl, ?_⟩
    rw [m1]; rfl
  have hs : (scaled (m f) t).length = d + 1 := by rw [scaled_length, ml, h]
  have c : d = 1 ∨ d = 2 ∨ d = 3 ∨ d = 4 ∨ d = 5 ∨ d = 6 := by omega
  clear m2 m4 m6
  rcases c with rfl | rfl | rfl | rfl | rfl | rfl
  · simp [inv, h, hs, sizes, wts]
  · have q : inv (scaled (m f) t) = laid 2 (scaled (m f) t) (scaled (m f) t) := by simp [inv, hs]
    have q2 : inv f = laid 2 f f := by simp [inv, h]
    have a1 := l2 f f _ _ 1 h h (by decide) (by decide) (by decide)
    rw [q, q2, k2 h h (by decide) (by decide)]
    obtain ⟨x, ex, ey⟩ := e1 _ (t * t * E2) a1
    rw [ey, ex, show wts t E2 E4 E6 2 = [t ^ 2 * E2] from rfl, zw1]
    refine ⟨?_, rfl⟩
    have g : t * t * E2 = t ^ 2 * E2 := by grind
    rw [g]
  · have q : inv (scaled (m f) t) = laid 2 (laid 2 (scaled (m f) t) (scaled (m f) t)) (laid 2 (scaled (m f) t) (scaled (m f) t)) := by simp [inv, hs]
    have q2 : inv f = laid 2 (laid 2 f f) (laid 2 f f) := by simp [inv, h]
    have a1 := l2 f f _ _ 3 h h (by decide) (by decide) (by decide)
    have a2 := l2 _ _ _ _ 1 a1 a1 (by decide) (by decide) (by decide)
    rw [q, q2, k2 h h (by decide) (by decide), k2 a1 a1 (by decide) (by decide)]
    obtain ⟨x, ex, ey⟩ := e1 _ (t * t * E2 * (t * t * E2) * E2) a2
    rw [ey, ex, show wts t E2 E4 E6 3 = [t ^ 4 * E2 ^ 3] from rfl, zw1]
    refine ⟨?_, rfl⟩
    have g : t * t * E2 * (t * t * E2) * E2 = t ^ 4 * E2 ^ 3 := by grind
    rw [g]
  · have q : inv (scaled (m f) t) = inv5 (scaled (m f) t) := by simp [inv, hs]
    have q2 : inv f = inv5 f := by simp [inv, h]
    have a1 := l4 f f _ _ 1 h h (by decide) (by decide) (by decide)
    have a2 := l2 f f _ _ 5 h h (by decide) (by decide) (by decide)
    have a3 := l4 f _ _ _ 1 h a2 (by decide) (by decide) (by decide)
    rw [q, q2]
    unfold inv5
    rw [k4 h h (by decide) (by decide), k2 h h (by decide) (by decide), k4 h a2 (by decide) (by decide)]
    obtain ⟨x, ex, ey⟩ := e1 _ (t * t * E4) a1
    obtain ⟨x2, ex2, ey2⟩ := e1 _ (t * t * E2 * t * E4) a3
    rw [ey, ey2, ex, ex2, show wts t E2 E4 E6 4 = [t ^ 2 * E4, t ^ 3 * E2 * E4] from rfl, zw2, ap2]
    refine ⟨?_, rfl⟩
    have g1 : t * t * E4 = t ^ 2 * E4 := by grind
    have g2 : t * t * E2 * t * E4 = t ^ 3 * E2 * E4 := by grind
    rw [g1, g2]
  · have q : inv (scaled (m f) t) = inv6 (scaled (m f) t) := by simp [inv, hs]
    have q2 : inv f = inv6 f := by simp [inv, h]
    have a1 := l4 f f _ _ 3 h h (by decide) (by decide) (by decide)
    have a2 := l2 f _ _ _ 4 h a1 (by decide) (by decide) (by decide)
    have a3 := l2 _ _ _ _ 3 a2 a2 (by decide) (by decide) (by decide)
    have a4 := l2 _ _ _ _ 1 a1 a1 (by decide) (by decide) (by decide)
    have a5 := l2 _ _ _ _ 1 a1 a3 (by decide) (by decide) (by decide)
    have a6 := l2 _ _ _ _ 1 a3 a3 (by decide) (by decide) (by decide)
    rw [q, q2]
    unfold inv6
    rw [k4 h h (by decide) (by decide), k2 h a1 (by decide) (by decide), k2 a2 a2 (by decide) (by decide), k2 a1 a1 (by decide) (by decide), k2 a1 a3 (by decide) (by decide), k2 a3 a3 (by decide) (by decide)]
    obtain ⟨x, ex, ey⟩ := e1 _ (t * t * E4 * (t * t * E4) * E2) a4
    obtain ⟨x2, ex2, ey2⟩ := e1 _ (t * t * E4 * t * E2 * (t * t * E4 * t * E2) * E2 * (t * t * E4) * E2) a5
    obtain ⟨x3, ex3, ey3⟩ := e1 _ (t * t * E4 * t * E2 * (t * t * E4 * t * E2) * E2 * (t * t * E4 * t * E2 * (t * t * E4 * t * E2) * E2) * E2) a6
    rw [ey, ey2, ey3, ex, ex2, ex3, show wts t E2 E4 E6 5 = [t ^ 4 * E4 ^ 2 * E2, t ^ 8 * E4 ^ 3 * E2 ^ 4, t ^ 12 * E4 ^ 4 * E2 ^ 7] from rfl, zw3, ap3]
    refine ⟨?_, rfl⟩
    have g1 : t * t * E4 * (t * t * E4) * E2 = t ^ 4 * E4 ^ 2 * E2 := by grind
    have g2 : t * t * E4 * t * E2 * (t * t * E4 * t * E2) * E2 * (t * t * E4) * E2 = t ^ 8 * E4 ^ 3 * E2 ^ 4 := by grind
    have g3 : t * t * E4 * t * E2 * (t * t * E4 * t * E2) * E2 * (t * t * E4 * t * E2 * (t * t * E4 * t * E2) * E2) * E2 = t ^ 12 * E4 ^ 4 * E2 ^ 7 := by grind
    rw [g1, g2, g3]
  · have q : inv (scaled (m f) t) = inv7 (scaled (m f) t) := by simp [inv, hs]
    have q2 : inv f = inv7 f := by simp [inv, h]
    have a1 := l4 f f _ _ 5 h h (by decide) (by decide) (by decide)
    have a2 := l4 f _ _ _ 3 h a1 (by decide) (by decide) (by decide)
    have a3 := l2 _ _ _ _ 5 a1 a1 (by decide) (by decide) (by decide)
    have a4 := l2 _ _ _ _ 3 a1 a2 (by decide) (by decide) (by decide)
    have a5 := l2 _ _ _ _ 3 a1 a4 (by decide) (by decide) (by decide)
    have a6 := l6 f f _ _ 1 h h (by decide) (by decide) (by decide)
    have a7 := l4 _ _ _ _ 1 a1 a1 (by decide) (by decide) (by decide)
    have a8 := l4 _ _ _ _ 1 a1 a3 (by decide) (by decide) (by decide)
    have a9 := l2 _ _ _ _ 1 a5 a2 (by decide) (by decide) (by decide)
    rw [q, q2]
    unfold inv7
    rw [k6 h h (by decide) (by decide), k4 h h (by decide) (by decide), k4 h a1 (by decide) (by decide), k4 a1 a1 (by decide) (by decide), k2 a1 a1 (by decide) (by decide), k2 a1 a2 (by decide) (by decide), k4 a1 a3 (by decide) (by decide),
      k2 a1 a4 (by decide) (by decide), k2 a5 a2 (by decide) (by decide)]
    obtain ⟨x, ex, ey⟩ := e1 _ (t * t * E6) a6
    obtain ⟨x2, ex2, ey2⟩ := e1 _ (t * t * E4 * (t * t * E4) * E4) a7
    obtain ⟨x3, ex3, ey3⟩ := e1 _ (t * t * E4 * (t * t * E4) * E2 * (t * t * E4) * E4) a8
    obtain ⟨x4, ex4, ey4⟩ := e1 _ (t * t * E4 * t * E4 * (t * t * E4 * t * E4 * (t * t * E4) * E2 * (t * t * E4) * E2) * E2) a9
    rw [ey, ey2, ey3, ey4, ex, ex2, ex3, ex4, show wts t E2 E4 E6 6 = [t ^ 2 * E6, t ^ 4 * E4 ^ 3, t ^ 6 * E4 ^ 4 * E2, t ^ 10 * E4 ^ 6 * E2 ^ 3] from rfl, zw4, ap4]
    refine ⟨?_, rfl⟩
    have g1 : t * t * E6 = t ^ 2 * E6 := by grind
    have g2 : t * t * E4 * (t * t * E4) * E4 = t ^ 4 * E4 ^ 3 := by grind
    have g3 : t * t * E4 * (t * t * E4) * E2 * (t * t * E4) * E4 = t ^ 6 * E4 ^ 4 * E2 := by grind
    have g4 : t * t * E4 * t * E4 * (t * t * E4 * t * E4 * (t * t * E4) * E2 * (t * t * E4) * E2) * E2 = t ^ 10 * E4 ^ 6 * E2 ^ 3 := by grind
    rw [g1, g2, g3, g4]
theorem ch_m (p q r s : Int) : (∀ (u v : List Int) (c d : Int), 2 < u.length → 2 < v.length → laid 2 (scaled (ch p q r s u) c) (scaled (ch p q r s v) d) = scaled (ch p q r s (laid 2 u v)) (d * c * det2 p q r s ^ 2)) ∧
    (∀ (u v : List Int) (c d : Int), 4 < u.length → 4 < v.length → laid 4 (scaled (ch p q r s u) c) (scaled (ch p q r s v) d) = scaled (ch p q r s (laid 4 u v)) (d * c * det2 p q r s ^ 4)) ∧
    ∀ (u v : List Int) (c d : Int), 6 < u.length → 6 < v.length → laid 6 (scaled (ch p q r s u) c) (scaled (ch p q r s v) d) = scaled (ch p q r s (laid 6 u v)) (d * c * det2 p q r s ^ 6) := by
  refine ⟨fun u v c d hu hv => ?_, fun u v c d hu hv => ?_, fun u v c d hu hv => ?_⟩
  · rw [laid2_s c d (by rw [ch_length]; exact hu) (by rw [ch_length]; exact hv), laid2_ch p q r s hu hv, scaled_scaled]
  · rw [laid4_s c d (by rw [ch_length]; exact hu) (by rw [ch_length]; exact hv), laid4_ch p q r s hu hv, scaled_scaled]
  · rw [laid6_s c d (by rw [ch_length]; exact hu) (by rw [ch_length]; exact hv), laid6_ch p q r s hu hv, scaled_scaled]
theorem wts_ch (D : Int) {d : Nat} (h1 : 1 ≤ d) (h6 : d ≤ 6) : wts 1 (D ^ 2) (D ^ 4) (D ^ 6) d = lw D d := by
  have c : d = 1 ∨ d = 2 ∨ d = 3 ∨ d = 4 ∨ d = 5 ∨ d = 6 := by omega
  rcases c with rfl | rfl | rfl | rfl | rfl | rfl
  · rfl
  · rw [lw2]; show [_] = [_]; congr 1; grind
  · rw [lw3]; show [_] = [_]; congr 1; grind
  · rw [lw4]; show [_, _] = [_, _]; congr 1; · grind
    congr 1; grind
  · rw [lw5]; show [_, _, _] = [_, _, _]; congr 1; · grind
    congr 1; · grind
    congr 1; grind
  · rw [lw6]; show [_, _, _, _] = [_, _, _, _]; congr 1; · grind
    congr 1; · grind
    congr 1; · grind
    congr 1; grind
/-- a change multiplies each by the power of its determinant that its size tells -/
theorem inv_changed (p q r s : Int) {f : List Int} {d : Nat} (h : f.length = d + 1) (h1 : 1 ≤ d) (h6 : d ≤ 6) :
    inv (ch p q r s f) = List.zipWith (fun w n => w * n) (lw (det2 p q r s) d) (inv f) := by
  obtain ⟨a, b, c⟩ := ch_m p q r s
  have := (inv_move (ch_length p q r s) (fun x => changed_one x) a b c h h1 h6 1).1
  rw [scaled_one, wts_ch _ h1 h6] at this
  exact this
theorem inv_len {f : List Int} {d : Nat} (h : f.length = d + 1) (h1 : 1 ≤ d) (h6 : d ≤ 6) : (inv f).length = (sizes d).length := by
  obtain ⟨a, b, c⟩ := ch_m 0 0 0 0
  exact (inv_move (ch_length 0 0 0 0) (fun x => changed_one x) a b c h h1 h6 1).2
theorem inv_scaled {f : List Int} {d : Nat} (h : f.length = d + 1) (h1 : 1 ≤ d) (h6 : d ≤ 6) (t : Int) :
    inv (scaled f t) = List.zipWith (fun w n => w * n) ((sizes d).map fun z => t ^ z) (inv f) := by
  have e : ∀ x : Int, x = x * 1 := fun x => by omega
  have := (inv_move (m := fun f => f) (E2 := 1) (E4 := 1) (E6 := 1) (fun f => rfl) (fun x => rfl) (fun u v c d hu hv => by rw [laid2_s c d hu hv, ← e]) (fun u v c d hu hv => by rw [laid4_s c d hu hv, ← e]) (fun u v c d hu hv => by rw [laid6_s c d hu hv, ← e]) h h1 h6 t).1
  rw [this]
  congr 1
  have c : d = 1 ∨ d = 2 ∨ d = 3 ∨ d = 4 ∨ d = 5 ∨ d = 6 := by omega
  rcases c with rfl | rfl | rfl | rfl | rfl | rfl <;> simp [wts, sizes]
end K45
namespace K45
theorem q222 (a0 a1 a2 b0 b1 b2 : Int) : laid 2 [a0, a1, a2] [b0, b1, b2] = [4 * (a0 * b2) - 2 * (a1 * b1) + 4 * (a2 * b0)] := by
  simp [laid, laidN, lpiece, sg, lots, dXY, itX, itY, dX, dY, prod, tab, List.range, List.range.loop, conv, co, plus, scaled, zeros]
  grind
theorem q332 (a0 a1 a2 a3 b0 b1 b2 b3 : Int) : laid 2 [a0, a1, a2, a3] [b0, b1, b2, b3] = [12 * (a0 * b2) - 8 * (a1 * b1) + 12 * (a2 * b0), 36 * (a0 * b3) - 4 * (a1 * b2) - 4 * (a2 * b1) + 36 * (a3 * b0), 12 * (a1 * b3) - 8 * (a2 * b2) + 12 * (a3 * b1)] := by
  simp [laid, laidN, lpiece, sg, lots, dXY, itX, itY, dX, dY, prod, tab, List.range, List.range.loop, conv, co, plus, scaled, zeros]
  grind
theorem q444 (a0 a1 a2 a3 a4 b0 b1 b2 b3 b4 : Int) : laid 4 [a0, a1, a2, a3, a4] [b0, b1, b2, b3, b4] = [576 * (a0 * b4) - 144 * (a1 * b3) + 96 * (a2 * b2) - 144 * (a3 * b1) + 576 * (a4 * b0)] := by
  simp [laid, laidN, lpiece, sg, lots, dXY, itX, itY, dX, dY, prod, tab, List.range, List.range.loop, conv, co, plus, scaled, zeros]
  grind
theorem q442 (a0 a1 a2 a3 a4 b0 b1 b2 b3 b4 : Int) : laid 2 [a0, a1, a2, a3, a4] [b0, b1, b2, b3, b4] = [24 * (a0 * b2) - 18 * (a1 * b1) + 24 * (a2 * b0), 72 * (a0 * b3) - 12 * (a1 * b2) - 12 * (a2 * b1) + 72 * (a3 * b0), 144 * (a0 * b4) + 18 * (a1 * b3) - 24 * (a2 * b2) + 18 * (a3 * b1) + 144 * (a4 * b0), 72 * (a1 * b4) - 12 * (a2 * b3) - 12 * (a3 * b2) + 72 * (a4 * b1), 24 * (a2 * b4) - 18 * (a3 * b3) + 24 * (a4 * b2)] := by
  simp [laid, laidN, lpiece, sg, lots, dXY, itX, itY, dX, dY, prod, tab, List.range, List.range.loop, conv, co, plus, scaled, zeros]
  grind
theorem q554 (a0 a1 a2 a3 a4 a5 b0 b1 b2 b3 b4 b5 : Int) : laid 4 [a0, a1, a2, a3, a4, a5] [b0, b1, b2, b3, b4, b5] = [2880 * (a0 * b4) - 1152 * (a1 * b3) + 864 * (a2 * b2) - 1152 * (a3 * b1) + 2880 * (a4 * b0), 14400 * (a0 * b5) - 1728 * (a1 * b4) + 288 * (a2 * b3) + 288 * (a3 * b2) - 1728 * (a4 * b1) + 14400 * (a5 * b0), 2880 * (a1 * b5) - 1152 * (a2 * b4) + 864 * (a3 * b3) - 1152 * (a4 * b2) + 2880 * (a5 * b1)] := by
  simp [laid, laidN, lpiece, sg, lots, dXY, itX, itY, dX, dY, prod, tab, List.range, List.range.loop, conv, co, plus, scaled, zeros]
  grind
theorem q522 (a0 a1 a2 a3 a4 a5 b0 b1 b2 : Int) : laid 2 [a0, a1, a2, a3, a4, a5] [b0, b1, b2] = [40 * (a0 * b2) - 8 * (a1 * b1) + 4 * (a2 * b0), 24 * (a1 * b2) - 12 * (a2 * b1) + 12 * (a3 * b0), 12 * (a2 * b2) - 12 * (a3 * b1) + 24 * (a4 * b0), 4 * (a3 * b2) - 8 * (a4 * b1) + 40 * (a5 * b0)] := by
  simp [laid, laidN, lpiece, sg, lots, dXY, itX, itY, dX, dY, prod, tab, List.range, List.range.loop, conv, co, plus, scaled, zeros]
  grind
theorem q664 (a0 a1 a2 a3 a4 a5 a6 b0 b1 b2 b3 b4 b5 b6 : Int) : laid 4 [a0, a1, a2, a3, a4, a5, a6] [b0, b1, b2, b3, b4, b5, b6] = [8640 * (a0 * b4) - 4320 * (a1 * b3) + 3456 * (a2 * b2) - 4320 * (a3 * b1) + 8640 * (a4 * b0), 43200 * (a0 * b5) - 8640 * (a1 * b4) + 1728 * (a2 * b3) + 1728 * (a3 * b2) - 8640 * (a4 * b1) + 43200 * (a5 * b0), 129600 * (a0 * b6) - 5184 * (a2 * b4) + 5184 * (a3 * b3) - 5184 * (a4 * b2) + 129600 * (a6 * b0), 43200 * (a1 * b6) - 8640 * (a2 * b5) + 1728 * (a3 * b4) + 1728 * (a4 * b3) - 8640 * (a5 * b2) + 43200 * (a6 * b1), 8640 * (a2 * b6) - 4320 * (a3 * b5) + 3456 * (a4 * b4) - 4320 * (a5 * b3) + 8640 * (a6 * b2)] := by
  simp [laid, laidN, lpiece, sg, lots, dXY, itX, itY, dX, dY, prod, tab, List.range, List.range.loop, conv, co, plus, scaled, zeros]
  grind
theorem q644 (a0 a1 a2 a3 a4 a5 a6 b0 b1 b2 b3 b4 : Int) : laid 4 [a0, a1, a2, a3, a4, a5, a6] [b0, b1, b2, b3, b4] = [8640 * (a0 * b4) - 1440 * (a1 * b3) + 576 * (a2 * b2) - 432 * (a3 * b1) + 576 * (a4 * b0), 2880 * (a1 * b4) - 1152 * (a2 * b3) + 864 * (a3 * b2) - 1152 * (a4 * b1) + 2880 * (a5 * b0), 576 * (a2 * b4) - 432 * (a3 * b3) + 576 * (a4 * b2) - 1440 * (a5 * b1) + 8640 * (a6 * b0)] := by
  simp [laid, laidN, lpiece, sg, lots, dXY, itX, itY, dX, dY, prod, tab, List.range, List.range.loop, conv, co, plus, scaled, zeros]
  grind
theorem q422 (a0 a1 a2 a3 a4 b0 b1 b2 : Int) : laid 2 [a0, a1, a2, a3, a4] [b0, b1, b2] = [24 * (a0 * b2) - 6 * (a1 * b1) + 4 * (a2 * b0), 12 * (a1 * b2) - 8 * (a2 * b1) + 12 * (a3 * b0), 4 * (a2 * b2) - 6 * (a3 * b1) + 24 * (a4 * b0)] := by
  simp [laid, laidN, lpiece, sg, lots, dXY, itX, itY, dX, dY, prod, tab, List.range, List.range.loop, conv, co, plus, scaled, zeros]
  grind
theorem q666 (a0 a1 a2 a3 a4 a5 a6 b0 b1 b2 b3 b4 b5 b6 : Int) : laid 6 [a0, a1, a2, a3, a4, a5, a6] [b0, b1, b2, b3, b4, b5, b6] = [518400 * (a0 * b6) - 86400 * (a1 * b5) + 34560 * (a2 * b4) - 25920 * (a3 * b3) + 34560 * (a4 * b2) - 86400 * (a5 * b1) + 518400 * (a6 * b0)] := by
  simp [laid, laidN, lpiece, sg, lots, dXY, itX, itY, dX, dY, prod, tab, List.range, List.range.loop, conv, co, plus, scaled, zeros]
  grind
end K45
namespace K45
def f222 : List Int → List Int → List Int
  | [a0, a1, a2], [b0, b1, b2] => [4 * (a0 * b2) - 2 * (a1 * b1) + 4 * (a2 * b0)]
  | _, _ => []
theorem e222 : ∀ {f g : List Int}, f.length = 3 → g.length = 3 → laid 2 f g = f222 f g
  | [a0, a1, a2], [b0, b1, b2], _, _ => q222 a0 a1 a2 b0 b1 b2
def f332 : List Int → List Int → List Int
  | [a0, a1, a2, a3], [b0, b1, b2, b3] => [12 * (a0 * b2) - 8 * (a1 * b1) + 12 * (a2 * b0), 36 * (a0 * b3) - 4 * (a1 * b2) - 4 * (a2 * b1) + 36 * (a3 * b0), 12 * (a1 * b3) - 8 * (a2 * b2) + 12 * (a3 * b1)]
  | _, _ => []
theorem e332 : ∀ {f g : List Int}, f.length = 4 → g.length = 4 → laid 2 f g = f332 f g
  | [a0, a1, a2, a3], [b0, b1, b2, b3], _, _ => q332 a0 a1 a2 a3 b0 b1 b2 b3
def f444 : List Int → List Int → List Int
  | [a0, a1, a2, a3, a4], [b0, b1, b2, b3, b4] => [576 * (a0 * b4) - 144 * (a1 * b3) + 96 * (a2 * b2) - 144 * (a3 * b1) + 576 * (a4 * b0)]
  | _, _ => []
theorem e444 : ∀ {f g : List Int}, f.length = 5 → g.length = 5 → laid 4 f g = f444 f g
  | [a0, a1, a2, a3, a4], [b0, b1, b2, b3, b4], _, _ => q444 a0 a1 a2 a3 a4 b0 b1 b2 b3 b4
def f442 : List Int → List Int → List Int
  | [a0, a1, a2, a3, a4], [b0, b1, b2, b3, b4] => [24 * (a0 * b2) - 18 * (a1 * b1) + 24 * (a2 * b0), 72 * (a0 * b3) - 12 * (a1 * b2) - 12 * (a2 * b1) + 72 * (a3 * b0), 144 * (a0 * b4) + 18 * (a1 * b3) - 24 * (a2 * b2) + 18 * (a3 * b1) + 144 * (a4 * b0), 72 * (a1 * b4) - 12 * (a2 * b3) - 12 * (a3 * b2) + 72 * (a4 * b1), 24 * (a2 * b4) - 18 * (a3 * b3) + 24 * (a4 * b2)]
  | _, _ => []
theorem e442 : ∀ {f g : List Int}, f.length = 5 → g.length = 5 → laid 2 f g = f442 f g
  | [a0, a1, a2, a3, a4], [b0, b1, b2, b3, b4], _, _ => q442 a0 a1 a2 a3 a4 b0 b1 b2 b3 b4
def f554 : List Int → List Int → List Int
  | [a0, a1, a2, a3, a4, a5], [b0, b1, b2, b3, b4, b5] => [2880 * (a0 * b4) - 1152 * (a1 * b3) + 864 * (a2 * b2) - 1152 * (a3 * b1) + 2880 * (a4 * b0), 14400 * (a0 * b5) - 1728 * (a1 * b4) + 288 * (a2 * b3) + 288 * (a3 * b2) - 1728 * (a4 * b1) + 14400 * (a5 * b0), 2880 * (a1 * b5) - 1152 * (a2 * b4) + 864 * (a3 * b3) - 1152 * (a4 * b2) + 2880 * (a5 * b1)]
  | _, _ => []
theorem e554 : ∀ {f g : List Int}, f.length = 6 → g.length = 6 → laid 4 f g = f554 f g
  | [a0, a1, a2, a3, a4, a5], [b0, b1, b2, b3, b4, b5], _, _ => q554 a0 a1 a2 a3 a4 a5 b0 b1 b2 b3 b4 b5
def f522 : List Int → List Int → List Int
  | [a0, a1, a2, a3, a4, a5], [b0, b1, b2] => [40 * (a0 * b2) - 8 * (a1 * b1) + 4 * (a2 * b0), 24 * (a1 * b2) - 12 * (a2 * b1) + 12 * (a3 * b0), 12 * (a2 * b2) - 12 * (a3 * b1) + 24 * (a4 * b0), 4 * (a3 * b2) - 8 * (a4 * b1) + 40 * (a5 * b0)]
  | _, _ => []
theorem e522 : ∀ {f g : List Int}, f.length = 6 → g.length = 3 → laid 2 f g = f522 f g
  | [a0, a1, a2, a3, a4, a5], [b0, b1, b2], _, _ => q522 a0 a1 a2 a3 a4 a5 b0 b1 b2
def f664 : List Int → List Int → List Int
  | [a0, a1, a2, a3, a4, a5, a6], [b0, b1, b2, b3, b4, b5, b6] => [8640 * (a0 * b4) - 4320 * (a1 * b3) + 3456 * (a2 * b2) - 4320 * (a3 * b1) + 8640 * (a4 * b0), 43200 * (a0 * b5) - 8640 * (a1 * b4) + 1728 * (a2 * b3) + 1728 * (a3 * b2) - 8640 * (a4 * b1) + 43200 * (a5 * b0), 129600 * (a0 * b6) - 5184 * (a2 * b4) + 5184 * (a3 * b3) - 5184 * (a4 * b2) + 129600 * (a6 * b0), 43200 * (a1 * b6) - 8640 * (a2 * b5) + 1728 * (a3 * b4) + 1728 * (a4 * b3) - 8640 * (a5 * b2) + 43200 * (a6 * b1), 8640 * (a2 * b6) - 4320 * (a3 * b5) + 3456 * (a4 * b4) - 4320 * (a5 * b3) + 8640 * (a6 * b2)]
  | _, _ => []
theorem e664 : ∀ {f g : List Int}, f.length = 7 → g.length = 7 → laid 4 f g = f664 f g
  | [a0, a1, a2, a3, a4, a5, a6], [b0, b1, b2, b3, b4, b5, b6], _, _ => q664 a0 a1 a2 a3 a4 a5 a6 b0 b1 b2 b3 b4 b5 b6
def f644 : List Int → List Int → List Int
  | [a0, a1, a2, a3, a4, a5, a6], [b0, b1, b2, b3, b4] => [8640 * (a0 * b4) - 1440 * (a1 * b3) + 576 * (a2 * b2) - 432 * (a3 * b1) + 576 * (a4 * b0), 2880 * (a1 * b4) - 1152 * (a2 * b3) + 864 * (a3 * b2) - 1152 * (a4 * b1) + 2880 * (a5 * b0), 576 * (a2 * b4) - 432 * (a3 * b3) + 576 * (a4 * b2) - 1440 * (a5 * b1) + 8640 * (a6 * b0)]
  | _, _ => []
theorem e644 : ∀ {f g : List Int}, f.length = 7 → g.length = 5 → laid 4 f g = f644 f g
  | [a0, a1, a2, a3, a4, a5, a6], [b0, b1, b2, b3, b4], _, _ => q644 a0 a1 a2 a3 a4 a5 a6 b0 b1 b2 b3 b4
def f422 : List Int → List Int → List Int
  | [a0, a1, a2, a3, a4], [b0, b1, b2] => [24 * (a0 * b2) - 6 * (a1 * b1) + 4 * (a2 * b0), 12 * (a1 * b2) - 8 * (a2 * b1) + 12 * (a3 * b0), 4 * (a2 * b2) - 6 * (a3 * b1) + 24 * (a4 * b0)]
  | _, _ => []
theorem e422 : ∀ {f g : List Int}, f.length = 5 → g.length = 3 → laid 2 f g = f422 f g
  | [a0, a1, a2, a3, a4], [b0, b1, b2], _, _ => q422 a0 a1 a2 a3 a4 b0 b1 b2
def f666 : List Int → List Int → List Int
  | [a0, a1, a2, a3, a4, a5, a6], [b0, b1, b2, b3, b4, b5, b6] => [518400 * (a0 * b6) - 86400 * (a1 * b5) + 34560 * (a2 * b4) - 25920 * (a3 * b3) + 34560 * (a4 * b2) - 86400 * (a5 * b1) + 518400 * (a6 * b0)]
  | _, _ => []
theorem e666 : ∀ {f g : List Int}, f.length = 7 → g.length = 7 → laid 6 f g = f666 f g
  | [a0, a1, a2, a3, a4, a5, a6], [b0, b1, b2, b3, b4, b5, b6], _, _ => q666 a0 a1 a2 a3 a4 a5 a6 b0 b1 b2 b3 b4 b5 b6

def fI5 (f : List Int) : List Int := f444 f f ++ f444 f (f442 f f)
def fI6' (f F T S : List Int) : List Int := f222 F F ++ (f222 F S ++ f222 S S)
def fI6 (f : List Int) : List Int := (fun F => (fun T => (fun S => fI6' f F T S) (f332 T T)) (f522 f F)) (f554 f f)
def fI7' (f F T M W : List Int) : List Int := f666 f f ++ (f444 F F ++ (f444 F M ++ f222 W T))
def fI7 (f : List Int) : List Int := (fun F => (fun T => (fun M => (fun W => fI7' f F T M W) (f422 F (f422 F T))) (f442 F F)) (f644 f F)) (f664 f f)
def fInv : Nat → List Int → List Int
  | 2, f => f222 f f
  | 3, f => (fun h => f222 h h) (f332 f f)
  | 4, f => fI5 f
  | 5, f => fI6 f
  | 6, f => fI7 f
  | _, _ => []
theorem fInv_eq {f : List Int} {d : Nat} (h : f.length = d + 1) (h1 : 1 ≤ d) (h6 : d ≤ 6) : inv f = fInv d f := by
  have l2 : ∀ (u v : List Int) (a b c : Nat), u.length = a → v.length = b → 2 < a → 2 < b → a + b - 1 - 2 * 2 = c → (laid 2 u v).length = c := fun u v a b c hu hv ha hb hc => by
    rw [laid_length (by omega) (by omega), hu, hv, hc]
  have l4 : ∀ (u v : List Int) (a b c : Nat), u.length = a → v.length = b → 4 < a → 4 < b → a + b - 1 - 2 * 4 = c → (laid 4 u v).length = c := fun u v a b c hu hv ha hb hc => by
    rw [laid_length (by omega) (by omega), hu, hv, hc]
  have c : d = 1 ∨ d = 2 ∨ d = 3 ∨ d = 4 ∨ d = 5 ∨ d = 6 := by omega
  rcases c with rfl | rfl | rfl | rfl | rfl | rfl
  · simp [inv, h, fInv]
  · have q2 : inv f = laid 2 f f := by simp [inv, h]
    rw [q2, e222 h h]; rfl
  · have q2 : inv f = laid 2 (laid 2 f f) (laid 2 f f) := by simp [inv, h]
    have a1 := l2 f f _ _ 3 h h (by decide) (by decide) (by decide)
    rw [q2, e222 a1 a1, e332 h h]; rfl
  · have q2 : inv f = inv5 f := by simp [inv, h]
    have a2 := l2 f f _ _ 5 h h (by decide) (by decide) (by decide)
    rw [q2]
    unfold inv5
    rw [e444 h h, e444 h a2, e442 h h]; rfl
  · have q2 : inv f = inv6 f := by simp [inv, h]
    have a1 := l4 f f _ _ 3 h h (by decide) (by decide) (by decide)
    have a2 := l2 f _ _ _ 4 h a1 (by decide) (by decide) (by decide)
    have a3 := l2 _ _ _ _ 3 a2 a2 (by decide) (by decide) (by decide)
    rw [q2]
    unfold inv6
    rw [e222 a1 a1, e222 a1 a3, e222 a3 a3, e332 a2 a2, e522 h a1, e554 h h, List.append_assoc]; rfl
  · have q2 : inv f = inv7 f := by simp [inv, h]
    have a1 := l4 f f _ _ 5 h h (by decide) (by decide) (by decide)
    have a2 := l4 f _ _ _ 3 h a1 (by decide) (by decide) (by decide)
    have a3 := l2 _ _ _ _ 5 a1 a1 (by decide) (by decide) (by decide)
    have a4 := l2 _ _ _ _ 3 a1 a2 (by decide) (by decide) (by decide)
    have a5 := l2 _ _ _ _ 3 a1 a4 (by decide) (by decide) (by decide)
    rw [q2]
    unfold inv7
    rw [e666 h h, e444 a1 a1, e444 a1 a3, e222 a5 a2, e422 a1 a4, e422 a1 a2, e442 a1 a1, e644 h a1, e664 h h, List.append_assoc, List.append_assoc]; rfl
def isZ : Int → Bool
  | .ofNat n => Nat.beq n 0
  | .negSucc _ => false
theorem isZ_iff (x : Int) : isZ x = true ↔ x = 0 := by
  cases x with
  | ofNat n =>
    cases n with
    | zero => simp [isZ]
    | succ n => simp [isZ]; try omega
  | negSucc n => simp [isZ]
def allZ : List Int → Bool
  | [] => true
  | x :: r => match isZ x with
    | true => allZ r
    | false => false
def noZ : List Int → Bool
  | [] => true
  | x :: r => match isZ x with
    | true => false
    | false => noZ r
theorem allZ_iff : ∀ l : List Int, allZ l = true ↔ ∀ x ∈ l, x = 0
  | [] => by simp [allZ]
  | x :: r => by
    have h := isZ_iff x
    rw [allZ]
    cases e : isZ x with
    | true => rw [e] at h; simp [allZ_iff r, h.mp rfl]
    | false =>
      rw [e] at h
      simp
      intro h0; exact absurd (h.mpr h0) (by simp)
theorem noZ_iff : ∀ l : List Int, noZ l = true ↔ ∀ x ∈ l, x ≠ 0
  | [] => by simp [noZ]
  | x :: r => by
    have h := isZ_iff x
    rw [noZ]
    cases e : isZ x with
    | true => rw [e] at h; simp [h.mp rfl]
    | false =>
      rw [e] at h
      simp [noZ_iff r]
      intro _ h0; exact absurd (h.mpr h0) (by simp)
def okI (d most : Nat) (l : List Int) : Bool :=
  match Nat.blt d (2 * most) with
  | true => allZ l
  | false => match Nat.beq d (2 * most) with
    | true => noZ l
    | false => !allZ l
def mul2 (p q : Int) : Int → List Int → List Int
  | u, [] => [q * u]
  | u, c :: t => (p * c + q * u) :: mul2 p q c t
def mul3 (p q r : Int) : Int → Int → List Int → List Int
  | u, v, [] => [q * u + r * v, r * u]
  | u, v, c :: t => (p * c + q * u + r * v) :: mul3 p q r c u t
def mulP : List Int → List Int → List Int
  | [p, q], f => mul2 p q 0 f
  | [p, q, r], f => mul3 p q r 0 0 f
  | _, _ => []
def lop (p : List Int) (w : Nat) (k : Nat → Nat → List Int → Bool) : Nat → Nat → Nat → Nat → List Int → Bool
  | 0, left, e, most, f => k left (Nat.max most e) f
  | n + 1, left, e, most, f => match k left (Nat.max most e) f with
    | true => match Nat.ble w left with
      | true => lop p w k n (left - w) (e + 1) most (mulP p f)
      | false => true
    | false => false
def chk (d : Nat) : List (List Int × Nat) → Nat → Nat → List Int → Bool
  | [], left, most, f => match left with
    | 0 => okI d most (fInv d f)
    | _ + 1 => true
  | (p, w) :: rest, left, most, f => match left with
    | 0 => okI d most (fInv d f)
    | _ + 1 => lop p w (chk d rest) 6 left 0 most f
def quads : List (List Int × Nat) := [([1, 0, 1], 2), ([1, 0, -2], 2), ([1, 1, 1], 2), ([1, 0, -3], 2), ([1, 1, -1], 2)]
def lines : List (List Int × Nat) := [([0, -1], 1), ([1, 0], 1), ([1, -1], 1), ([-1, -1], 1), ([1, -2], 1), ([3, -1], 1), ([-2, -3], 1)]
def partsL : List (List Int × Nat) := quads ++ lines
theorem chk1 : chk 1 partsL 1 0 [1] = true := by decide +kernel
theorem chk2 : chk 2 partsL 2 0 [1] = true := by decide +kernel
theorem chk3 : chk 3 partsL 3 0 [1] = true := by decide +kernel
theorem chk4 : chk 4 partsL 4 0 [1] = true := by decide +kernel
theorem chk5 : chk 5 partsL 5 0 [1] = true := by decide +kernel
end K45
namespace K45
theorem chk6 : chk 6 partsL 6 0 [1] = true := by decide +kernel
end K45
namespace K45
/-! ### what the check says -/
theorem cp_mul2 (p q : Int) : ∀ (u : Int) (f : List Int), cp (mul2 p q u f) = cp [p, q] * cp f + Ser.c q * Ser.c u
  | u, [] => by
    rw [mul2, cp_cons, cp_nil, ps_c_mul]; grind
  | u, c :: t => by
    rw [mul2, cp_cons, cp_mul2 p q c t, cp_cons c t, cp_pair, ps_c_add, ps_c_mul, ps_c_mul]; grind
theorem mul2_length (p q : Int) : ∀ (u : Int) (f : List Int), (mul2 p q u f).length = f.length + 1
  | u, [] => rfl
  | u, c :: t => by rw [mul2, List.length_cons, mul2_length p q c t]; rfl
theorem cp_three (p q r : Int) : cp [p, q, r] = Ser.c p + yy * (Ser.c q + yy * Ser.c r) := by
  rw [cp_cons, cp_cons, cp_cons, cp_nil]; grind
theorem cp_mul3 (p q r : Int) : ∀ (u v : Int) (f : List Int), cp (mul3 p q r u v f) = cp [p, q, r] * cp f + (Ser.c q * Ser.c u + Ser.c r * Ser.c v) + yy * (Ser.c r * Ser.c u)
  | u, v, [] => by
    rw [mul3, cp_cons, cp_cons, cp_nil, ps_c_add, ps_c_mul, ps_c_mul, ps_c_mul]; grind
  | u, v, c :: t => by
    rw [mul3, cp_cons, cp_mul3 p q r c u t, cp_cons c t, cp_three, ps_c_add, ps_c_add, ps_c_mul, ps_c_mul, ps_c_mul]; grind
theorem mul3_length (p q r : Int) : ∀ (u v : Int) (f : List Int), (mul3 p q r u v f).length = f.length + 2
  | u, v, [] => rfl
  | u, v, c :: t => by rw [mul3, List.length_cons, mul3_length p q r c u t]; rfl
/-- a line or a square -/
def okPart (p : List Int × Nat) : Prop := p.1.length = p.2 + 1 ∧ (p.2 = 1 ∨ p.2 = 2)
theorem cp_mulP {p : List Int × Nat} (hp : okPart p) (f : List Int) : cp (mulP p.1 f) = cp p.1 * cp f ∧ (mulP p.1 f).length = f.length + p.2 := by
  obtain ⟨l, w⟩ := p
  obtain ⟨h1, h2⟩ := hp
  simp only at h1 h2
  rcases h2 with rfl | rfl
  · match l, h1 with
    | [a, b], _ =>
      have e : Ser.c 0 = 0 := rfl
      refine ⟨?_, mul2_length a b 0 f⟩
      show cp (mul2 a b 0 f) = _
      rw [cp_mul2, e]; grind
  · match l, h1 with
    | [a, b, c], _ =>
      have e : Ser.c 0 = 0 := rfl
      refine ⟨?_, mul3_length a b c 0 0 f⟩
      show cp (mul3 a b c 0 0 f) = _
      rw [cp_mul3, e]; grind
def mulPow (p : List Int) : Nat → List Int → List Int
  | 0, f => f
  | n + 1, f => mulPow p n (mulP p f)
theorem cp_mulPow {p : List Int × Nat} (hp : okPart p) : ∀ (n : Nat) (f : List Int), cp (mulPow p.1 n f) = cp p.1 ^ n * cp f ∧ (mulPow p.1 n f).length = f.length + p.2 * n
  | 0, f => by
    have e : cp p.1 ^ 0 = 1 := by grind
    rw [e]
    refine ⟨?_, by simp [mulPow]⟩
    show cp f = 1 * cp f
    grind
  | n + 1, f => by
    obtain ⟨h1, h2⟩ := cp_mulPow hp n (mulP p.1 f)
    obtain ⟨h3, h4⟩ := cp_mulP hp f
    have e : cp p.1 ^ (n + 1) = cp p.1 ^ n * cp p.1 := by grind
    rw [mulPow, h1, h2, h3, h4, e, Nat.mul_add]
    refine ⟨by grind, by omega⟩
def mulAll : List (List Int × Nat) → List Nat → List Int → List Int
  | [], _, f => f
  | _ :: _, [], f => f
  | p :: ps, e :: es, f => mulAll ps es (mulPow p.1 e f)
def mon : List (List Int × Nat) → List Nat → Ser
  | [], _ => 1
  | _ :: _, [] => 1
  | p :: ps, e :: es => cp p.1 ^ e * mon ps es
def wsum : List (List Int × Nat) → List Nat → Nat
  | [], _ => 0
  | _ :: _, [] => 0
  | p :: ps, e :: es => p.2 * e + wsum ps es
def mxe (m : Nat) : List Nat → Nat
  | [] => m
  | e :: es => mxe (Nat.max m e) es
theorem cp_mulAll : ∀ {ps : List (List Int × Nat)} (es : List Nat) (f : List Int), (∀ p ∈ ps, okPart p) → cp (mulAll ps es f) = mon ps es * cp f ∧ (mulAll ps es f).length = f.length + wsum ps es
  | [], es, f, _ => ⟨by show cp f = 1 * cp f; grind, rfl⟩
  | p :: ps, [], f, _ => ⟨by show cp f = 1 * cp f; grind, rfl⟩
  | p :: ps, e :: es, f, h => by
    obtain ⟨h1, h2⟩ := cp_mulAll (ps := ps) es (mulPow p.1 e f) fun q hq => h q (List.mem_cons_of_mem _ hq)
    obtain ⟨h3, h4⟩ := cp_mulPow (h p List.mem_cons_self) e f
    rw [mulAll, h1, h2, h3, h4, mon, wsum]
    refine ⟨by grind, by omega⟩
theorem lop_spec {p : List Int} {w : Nat} {k : Nat → Nat → List Int → Bool} : ∀ {n left e most : Nat} {f : List Int}, lop p w k n left e most f = true → ∀ j, j ≤ n → w * j ≤ left → k (left - w * j) (Nat.max most (e + j)) (mulPow p j f) = true
  | 0, left, e, most, f, h, j, hj, hw => by
    have e0 : j = 0 := by omega
    subst e0
    exact h
  | n + 1, left, e, most, f, h, j, hj, hw => by
    rw [lop] at h
    cases hk : k left (Nat.max most e) f with
    | false => rw [hk] at h; simp at h
    | true =>
      rw [hk] at h
      cases j with
      | zero => exact hk
      | succ j =>
        have e1 : w * (j + 1) = w * j + w := Nat.mul_succ w j
        cases hb : Nat.ble w left with
        | false =>
          have : w ≤ left := by omega
          rw [Nat.ble_eq_true_of_le this] at hb; cases hb
        | true =>
          rw [hb] at h
          have q := lop_spec h j (by omega) (by omega)
          have e2 : left - w - w * j = left - w * (j + 1) := by omega
          have e3 : e + 1 + j = e + (j + 1) := by omega
          rw [e2, e3] at q
          exact q
theorem zero_all : ∀ {ps : List (List Int × Nat)} {es : List Nat}, (∀ p ∈ ps, okPart p) → wsum ps es = 0 → ∀ (f : List Int), es.length = ps.length → mulAll ps es f = f ∧ ∀ m, mxe m es = m
  | [], [], _, _, f, _ => ⟨rfl, fun m => rfl⟩
  | p :: ps, e :: es, h, hw, f, hl => by
    rw [wsum] at hw
    have hp := (h p List.mem_cons_self).2
    have e0 : e = 0 := by
      rcases hp with q | q <;> rw [q] at hw <;> omega
    subst e0
    obtain ⟨h1, h2⟩ := zero_all (ps := ps) (es := es) (fun q hq => h q (List.mem_cons_of_mem _ hq)) (by omega) f (by simpa using hl)
    refine ⟨h1, fun m => ?_⟩
    have e0 : Nat.max m 0 = m := Nat.max_zero m
    rw [mxe, e0, h2]
theorem chk_spec {d : Nat} : ∀ {ps : List (List Int × Nat)} {es : List Nat} {left most : Nat} {f : List Int}, (∀ p ∈ ps, okPart p) → left ≤ 6 → chk d ps left most f = true → es.length = ps.length → wsum ps es = left →
    okI d (mxe most es) (fInv d (mulAll ps es f)) = true
  | [], [], left, most, f, _, _, hc, _, hw => by
    subst hw
    exact hc
  | p :: ps, e :: es, left, most, f, h, h6, hc, hl, hw => by
    cases left with
    | zero =>
      obtain ⟨h1, h2⟩ := zero_all h hw f hl
      rw [h1, h2]
      exact hc
    | succ left =>
      have hc' : lop p.1 p.2 (chk d ps) 6 (left + 1) 0 most f = true := hc
      rw [wsum] at hw
      have hp := (h p List.mem_cons_self).2
      have he : e ≤ 6 := by rcases hp with q | q <;> rw [q] at hw <;> omega
      have q := lop_spec hc' e he (by omega)
      rw [Nat.zero_add] at q
      rw [mxe, mulAll]
      exact chk_spec (fun q hq => h q (List.mem_cons_of_mem _ hq)) (by omega) q (by simpa using hl) (by omega)
theorem ok_parts : ∀ p ∈ partsL, okPart p := by
  intro p hp
  simp [partsL, quads, lines] at hp
  rcases hp with rfl | rfl | rfl | rfl | rfl | rfl | rfl | rfl | rfl | rfl | rfl | rfl <;> simp [okPart]
theorem chk_all {d : Nat} (h1 : 1 ≤ d) (h6 : d ≤ 6) : chk d partsL d 0 [1] = true := by
  have c : d = 1 ∨ d = 2 ∨ d = 3 ∨ d = 4 ∨ d = 5 ∨ d = 6 := by omega
  rcases c with rfl | rfl | rfl | rfl | rfl | rfl
  · exact chk1
  · exact chk2
  · exact chk3
  · exact chk4
  · exact chk5
  · exact chk6
/-- what is asked of the told invariants of a form whose greatest root comes most times -/
def Falls (d most : Nat) (l : List Int) : Prop := ((∀ x ∈ l, x = 0) ↔ d < 2 * most) ∧ (2 * most = d → ∀ x ∈ l, x ≠ 0)
theorem okI_falls {d most : Nat} {l : List Int} (hl : 2 * most = d → l ≠ []) (h : okI d most l = true) : Falls d most l := by
  unfold okI at h
  cases hb : Nat.blt d (2 * most) with
  | true =>
    rw [hb] at h
    have hd : d < 2 * most := Nat.le_of_ble_eq_true hb
    exact ⟨⟨fun _ => hd, fun _ => (allZ_iff l).mp h⟩, fun e => by omega⟩
  | false =>
    rw [hb] at h
    have hd : ¬ d < 2 * most := fun q => by
      have : Nat.blt d (2 * most) = true := Nat.ble_eq_true_of_le q
      rw [this] at hb; cases hb
    cases hq : Nat.beq d (2 * most) with
    | true =>
      rw [hq] at h
      have e : d = 2 * most := Nat.eq_of_beq_eq_true hq
      have hn := (noZ_iff l).mp h
      refine ⟨⟨fun ha => ?_, fun q => absurd q hd⟩, fun _ => hn⟩
      cases l with
      | nil => exact absurd rfl (hl e.symm)
      | cons x r => exact absurd (ha x List.mem_cons_self) (hn x List.mem_cons_self)
    | false =>
      rw [hq] at h
      have e : ¬ 2 * most = d := fun q => by
        rw [q, Nat.beq_refl] at hq; cases hq
      refine ⟨⟨fun ha => ?_, fun q => absurd q hd⟩, fun q => absurd q e⟩
      have := (allZ_iff l).mpr ha
      simp only [this] at h
      cases h
/-! ### a parted form on the way: what was multiplied so far -/
structure PF (d : Nat) (found : List Int) (left most : Nat) (av : List Nat) : Prop where
  ex : ∃ (c : Int) (es : List Nat), c ≠ 0 ∧ es.length = 12 ∧ cp found = Ser.c c * mon partsL es ∧ wsum partsL es + left = d ∧ mxe 0 es = most ∧ ∀ i ∈ av, es[i]? = some 0
  nd : av.Nodup
  len : found.length + left = d + 1
theorem mon_set : ∀ {ps : List (List Int × Nat)} {es : List Nat} {i n : Nat} {p : List Int × Nat}, ps[i]? = some p → es[i]? = some 0 → mon ps (es.set i n) = cp p.1 ^ n * mon ps es ∧ wsum ps (es.set i n) = p.2 * n + wsum ps es
  | [], es, i, n, p, h, _ => by simp at h
  | q :: ps, [], i, n, p, _, h => by simp at h
  | q :: ps, e :: es, 0, n, p, h, h2 => by
    simp at h h2
    subst h; subst h2
    have e : cp q.1 ^ 0 = 1 := by grind
    refine ⟨?_, ?_⟩
    · show cp q.1 ^ n * mon ps es = cp q.1 ^ n * (cp q.1 ^ 0 * mon ps es)
      rw [e]; grind
    · show q.2 * n + wsum ps es = q.2 * n + (q.2 * 0 + wsum ps es)
      omega
  | q :: ps, e :: es, i + 1, n, p, h, h2 => by
    simp at h h2
    obtain ⟨h3, h4⟩ := mon_set (n := n) h h2
    refine ⟨?_, ?_⟩
    · show cp q.1 ^ e * mon ps (es.set i n) = cp p.1 ^ n * (cp q.1 ^ e * mon ps es)
      rw [h3]; grind
    · show q.2 * e + wsum ps (es.set i n) = p.2 * n + (q.2 * e + wsum ps es)
      rw [h4]; omega
theorem mxe_max (m k : Nat) (es : List Nat) : mxe (Nat.max m k) es = Nat.max (mxe m es) k := by
  induction es generalizing m with
  | nil => rfl
  | cons e es ih =>
    rw [mxe, mxe]
    have : Nat.max (Nat.max m k) e = Nat.max (Nat.max m e) k := by
      show max (max m k) e = max (max m e) k
      omega
    rw [this, ih]
theorem mxe_set : ∀ {es : List Nat} {i n m : Nat}, es[i]? = some 0 → mxe m (es.set i n) = Nat.max (mxe m es) n
  | [], i, n, m, h => by simp at h
  | e :: es, 0, n, m, h => by
    simp at h; subst h
    show mxe (Nat.max m n) es = Nat.max (mxe (Nat.max m 0) es) n
    have e0 : Nat.max m 0 = m := Nat.max_zero m
    rw [e0, mxe_max]
  | e :: es, i + 1, n, m, h => by
    simp at h
    show mxe (Nat.max m e) (es.set i n) = Nat.max (mxe (Nat.max m e) es) n
    exact mxe_set h
theorem PF.start {d : Nat} {c : Int} (hc : c ≠ 0) {av : List Nat} (h : av.Nodup) (hv : ∀ i ∈ av, i < 12) : PF d [c] d 0 av := by
  refine ⟨⟨c, List.replicate 12 0, hc, by simp, ?_, ?_, rfl, fun i hi => ?_⟩, h, by simp; omega⟩
  · obtain ⟨h1, _⟩ := cp_mulAll (ps := partsL) (List.replicate 12 0) [1] ok_parts
    obtain ⟨h2, _⟩ := zero_all (ps := partsL) (es := List.replicate 12 0) ok_parts (by decide) [1] rfl
    rw [h2] at h1
    have e1 : cp [1] = 1 := by
      rw [cp_cons, cp_nil]
      have e5 : Ser.c 1 = 1 := rfl
      rw [e5]; grind
    rw [e1] at h1
    have e2 : mon partsL (List.replicate 12 0) = 1 := by grind
    rw [e2, cp_cons, cp_nil]; grind
  · show wsum partsL (List.replicate 12 0) + d = d
    have : wsum partsL (List.replicate 12 0) = 0 := by decide
    omega
  · rw [List.getElem?_replicate, if_pos (hv i hi)]
/-- one part, so often -/
theorem PF.step {d left most : Nat} {found : List Int} {av av' : List Nat} {i n : Nat} {p : List Int × Nat} (F : PF d found left most av) (hp : partsL[i]? = some p) (hi : i ∈ av) (hav : ∀ j ∈ av', j ∈ av ∧ j ≠ i) (hnd : av'.Nodup)
    (hn : p.2 * n ≤ left) : PF d (prod found (powL p.1 n)) (left - p.2 * n) (Nat.max most n) av' := by
  obtain ⟨c, es, hc, hl, hcp, hw, hm, ha⟩ := F.ex
  have hpo := ok_parts p (List.mem_of_getElem? hp)
  have h0 := ha i hi
  obtain ⟨h1, h2⟩ := mon_set (n := n) hp h0
  have hlp : 1 ≤ p.1.length := by rw [hpo.1]; omega
  have hlf : 1 ≤ found.length := by have := F.len; omega
  have hpl : (powL p.1 n).length = p.2 * n + 1 := by
    rw [powL_length hlp, hpo.1, Nat.add_sub_cancel, Nat.mul_comm]
  refine ⟨⟨c, es.set i n, hc, by simpa using hl, ?_, ?_, ?_, fun j hj => ?_⟩, hnd, ?_⟩
  · rw [cp_prod hlf (by omega), cp_powL hlp, hcp, h1]; grind
  · rw [h2]; omega
  · rw [mxe_set h0, hm]
  · obtain ⟨ha1, ha2⟩ := hav j hj
    rw [List.getElem?_set_ne (fun q => ha2 q.symm)]
    exact ha j ha1
  · rw [prod_length, hpl]
    have := F.len
    omega
theorem mem_zip_zero {ws l : List Int} (hw : ∀ x ∈ ws, x ≠ 0) (hl : ws.length = l.length) : ((∀ x ∈ List.zipWith (fun w n => w * n) ws l, x = 0) ↔ ∀ x ∈ l, x = 0) ∧ ((∀ x ∈ l, x ≠ 0) → ∀ x ∈ List.zipWith (fun w n => w * n) ws l, x ≠ 0) := by
  induction ws generalizing l with
  | nil =>
    have : l = [] := by simpa using hl.symm
    subst this; simp
  | cons w ws ih =>
    cases l with
    | nil => simp at hl
    | cons x l =>
      obtain ⟨h1, h2⟩ := ih (l := l) (fun y hy => hw y (List.mem_cons_of_mem _ hy)) (by simpa using hl)
      have hw0 := hw w List.mem_cons_self
      refine ⟨?_, fun h => ?_⟩
      · simp only [List.zipWith_cons_cons, List.forall_mem_cons]
        rw [h1]
        constructor
        · rintro ⟨a, b⟩
          exact ⟨(Int.mul_eq_zero.mp a).resolve_left hw0, b⟩
        · rintro ⟨a, b⟩
          exact ⟨by rw [a, Int.mul_zero], b⟩
      · simp only [List.zipWith_cons_cons, List.forall_mem_cons] at *
        exact ⟨fun q => (Int.mul_eq_zero.mp q).elim hw0 h.1, h2 h.2⟩
theorem Falls.zip {d most : Nat} {ws l : List Int} (F : Falls d most l) (hw : ∀ x ∈ ws, x ≠ 0) (hl : ws.length = l.length) : Falls d most (List.zipWith (fun w n => w * n) ws l) := by
  obtain ⟨h1, h2⟩ := mem_zip_zero hw hl
  exact ⟨h1.trans F.1, fun e => h2 (F.2 e)⟩
theorem PF.falls {d most : Nat} {found : List Int} {av : List Nat} (h1 : 1 ≤ d) (h6 : d ≤ 6) (F : PF d found 0 most av) (p q r s : Int) (hd : p * s ≠ q * r) : Falls d most (inv (changed [p, q] [r, s] found)) := by
  obtain ⟨c, es, hc, hl, hcp, hw, hm, ha⟩ := F.ex
  have hlen := F.len
  have hG := cp_mulAll (ps := partsL) es [1] ok_parts
  have e1 : cp [1] = 1 := by
    rw [cp_cons, cp_nil]
    have e5 : Ser.c 1 = 1 := rfl
    rw [e5]; grind
  rw [e1] at hG
  have hGl : (mulAll partsL es [1]).length = d + 1 := by rw [hG.2]; simp; omega
  have hok := chk_spec (d := d) (es := es) (most := 0) (f := [1]) ok_parts h6 (chk_all h1 h6) (by rw [hl]; rfl) (by omega)
  rw [hm] at hok
  have hf : found = scaled (mulAll partsL es [1]) c := by
    apply cp_ext
    · rw [scaled_length, hGl]; omega
    · rw [cp_scaled, hcp, hG.1]; grind
  rw [← fInv_eq hGl h1 h6] at hok
  have hnil : 2 * most = d → inv (mulAll partsL es [1]) ≠ [] := fun e q => by
    have := inv_len hGl h1 h6
    rw [q] at this
    have c : d = 2 ∨ d = 4 ∨ d = 6 := by omega
    rcases c with rfl | rfl | rfl <;> simp [sizes] at this
  have F1 := okI_falls hnil hok
  have F2 : Falls d most (inv found) := by
    rw [hf, inv_scaled hGl h1 h6]
    refine F1.zip (fun x hx => ?_) (by rw [inv_len hGl h1 h6]; simp)
    obtain ⟨z, _, rfl⟩ := List.mem_map.mp hx
    exact Int.pow_ne_zero hc
  have hfl : found.length = d + 1 := by omega
  show Falls d most (inv (ch p q r s found))
  rw [inv_changed p q r s hfl h1 h6]
  refine F2.zip (fun x hx => ?_) (by rw [inv_len hfl h1 h6]; simp [lw])
  obtain ⟨z, _, rfl⟩ := List.mem_map.mp hx
  refine Int.pow_ne_zero ?_
  unfold det2
  omega
end K45
namespace K45
/-! ### how big the entries get, in bits -/
def Bd (n : Nat) (f : List Int) : Prop := ∀ k, (co f k).natAbs < 2 ^ n
theorem Bd.mono {n m : Nat} {f : List Int} (h : Bd n f) (l : n ≤ m) : Bd m f := fun k => Nat.lt_of_lt_of_le (h k) (Nat.pow_le_pow_right (by decide) l)
theorem Bd.mem {n : Nat} {f : List Int} (h : Bd n f) {x : Int} (hx : x ∈ f) : x.natAbs < 2 ^ n := by
  obtain ⟨i, hi, e⟩ := List.getElem_of_mem hx
  have := h i
  rwa [co_lt hi, e] at this
theorem Bd.of {n : Nat} {f : List Int} (h : ∀ x ∈ f, x.natAbs < 2 ^ n) : Bd n f := fun k => by
  by_cases e : k < f.length
  · rw [co_lt e]; exact h _ (List.getElem_mem e)
  · rw [co_ge (by omega)]; exact Nat.two_pow_pos n
theorem mul_lt_bits {n m : Nat} {x y : Int} (hx : x.natAbs < 2 ^ n) (hy : y.natAbs < 2 ^ m) : (x * y).natAbs < 2 ^ (n + m) := by
  rw [Int.natAbs_mul, Nat.pow_add]
  exact Nat.mul_lt_mul'' hx hy
theorem add_lt_bits {n : Nat} {x y : Int} (hx : x.natAbs < 2 ^ n) (hy : y.natAbs < 2 ^ n) : (x + y).natAbs < 2 ^ (n + 1) := by
  have := Int.natAbs_add_le x y
  rw [Nat.pow_succ]; omega
theorem bd_scaled {n m : Nat} {f : List Int} {c : Int} (h : Bd n f) (hc : c.natAbs < 2 ^ m) : Bd (n + m) (scaled f c) := fun k => by
  rw [co_scaled, Int.mul_comm]
  exact mul_lt_bits (h k) hc
theorem bd_plus {n : Nat} {f g : List Int} (h : Bd n f) (h2 : Bd n g) : Bd (n + 1) (plus f g) := fun k => by
  by_cases e : k < f.length ∧ k < g.length
  · have e1 : co (plus f g) k = co f k + co g k := by
      rw [co_lt (by rw [plus_length]; omega), co_lt e.1, co_lt e.2]; simp [plus]
    rw [e1]
    exact add_lt_bits (h k) (h2 k)
  · rw [co_ge (by rw [plus_length]; omega)]; exact Nat.two_pow_pos _
theorem bd_conv {n m : Nat} : ∀ {k : Nat} {a b : Nat → Int}, (∀ j, (a j).natAbs < 2 ^ n) → (∀ j, (b j).natAbs < 2 ^ m) → (conv a b k).natAbs < (k + 1) * 2 ^ (n + m)
  | 0, a, b, ha, hb => by
    have := mul_lt_bits (ha 0) (hb 0)
    show (a 0 * b 0).natAbs < _
    omega
  | k + 1, a, b, ha, hb => by
    have h1 := mul_lt_bits (ha 0) (hb (k + 1))
    have h2 := bd_conv (k := k) (a := fun j => a (j + 1)) (b := b) (fun j => ha (j + 1)) hb
    have h3 := Int.natAbs_add_le (a 0 * b (k + 1)) (conv (fun j => a (j + 1)) b k)
    show (a 0 * b (k + 1) + conv (fun j => a (j + 1)) b k).natAbs < _
    have e : (k + 1 + 1) * 2 ^ (n + m) = (k + 1) * 2 ^ (n + m) + 2 ^ (n + m) := Nat.succ_mul _ _
    omega
theorem bd_prod {n m : Nat} {f g : List Int} (h : Bd n f) (h2 : Bd m g) (hl : f.length + g.length ≤ 64) : Bd (n + m + 6) (prod f g) := fun k => by
  by_cases e : k < f.length + g.length - 1
  · have e1 : co (prod f g) k = conv (co f) (co g) k := by rw [prod, co_tab, if_pos e]
    rw [e1]
    have h3 := bd_conv (k := k) h h2
    have e2 : 2 ^ (n + m + 6) = 2 ^ (n + m) * 64 := by rw [Nat.pow_add]
    rw [e2, Nat.mul_comm _ 64]
    exact Nat.lt_of_lt_of_le h3 (Nat.mul_le_mul_right _ (by omega))
  · rw [co_ge (by rw [prod_length]; omega)]; exact Nat.two_pow_pos _
theorem bd_dX {n : Nat} {f : List Int} (h : Bd n f) (hl : f.length ≤ 64) : Bd (n + 6) (dX f) := fun k => by
  by_cases e : k < f.length - 1
  · rw [co_dX]
    refine mul_lt_bits (h k) ?_
    show _ < 64
    omega
  · rw [co_ge (by rw [dX_length]; omega)]; exact Nat.two_pow_pos _
theorem bd_dY {n : Nat} {f : List Int} (h : Bd n f) (hl : f.length ≤ 64) : Bd (n + 6) (dY f) := fun k => by
  by_cases e : k < f.length - 1
  · rw [co_dY]
    refine mul_lt_bits (h (k + 1)) ?_
    show _ < 64
    omega
  · rw [co_ge (by rw [dY_length]; omega)]; exact Nat.two_pow_pos _
theorem bd_itX {n : Nat} {f : List Int} (h : Bd n f) (hl : f.length ≤ 64) : ∀ a : Nat, Bd (n + 6 * a) (itX a f)
  | 0 => h
  | a + 1 => by
    have := bd_dX (bd_itX h hl a) (by rw [itX_length]; omega)
    exact this.mono (by omega)
theorem bd_itY {n : Nat} {f : List Int} (h : Bd n f) (hl : f.length ≤ 64) : ∀ a : Nat, Bd (n + 6 * a) (itY a f)
  | 0 => h
  | a + 1 => by
    have := bd_dY (bd_itY h hl a) (by rw [itY_length]; omega)
    exact this.mono (by omega)
theorem bd_dXY {n : Nat} {f : List Int} (h : Bd n f) (hl : f.length ≤ 64) (a b : Nat) : Bd (n + 6 * (a + b)) (dXY f a b) :=
  (bd_itY (bd_itX h hl a) (by rw [itX_length]; omega) b).mono (by omega)
theorem bd_powL {m : Nat} {a : List Int} (h : Bd m a) (h1 : 1 ≤ a.length) : ∀ n : Nat, n * (a.length - 1) + 1 + a.length ≤ 64 → Bd (n * (m + 6) + 1) (powL a n)
  | 0, _ => Bd.of fun x hx => by
    have : x = 1 := by simpa [powL] using hx
    subst this; exact Nat.lt_of_lt_of_le (by decide : 1 < 2) (Nat.le_self_pow (by omega) 2)
  | n + 1, hl => by
    have e : (n + 1) * (a.length - 1) = n * (a.length - 1) + (a.length - 1) := Nat.succ_mul _ _
    have e2 : (n + 1) * (m + 6) = n * (m + 6) + (m + 6) := Nat.succ_mul _ _
    have := bd_prod (bd_powL h h1 n (by omega)) h (by rw [powL_length h1]; omega)
    exact this.mono (by omega)
theorem bd_zeros (n k : Nat) : Bd n (zeros k) := fun j => by rw [co_zeros]; exact Nat.two_pow_pos n
theorem lots_lt : ∀ {k i : Nat}, k ≤ 6 → i ≤ k → (sg k i).natAbs < 2 ^ 5 := by
  have : ∀ k, k ≤ 6 → ∀ i, i ≤ k → (sg k i).natAbs < 2 ^ 5 := by decide
  intro k i hk hi; exact this k hk i hi
theorem bd_lpiece {n m k i : Nat} {f g : List Int} (hf : Bd n f) (hg : Bd m g) (hl : f.length + g.length ≤ 64) (hi : i ≤ k) : Bd (n + m + 12 * k + 6) (lpiece k f g i) := by
  have h1 := bd_dXY hf (by omega) (k - i) i
  have h2 := bd_dXY hg (by omega) i (k - i)
  have := bd_prod h1 h2 (by rw [dXY_length, dXY_length]; omega)
  exact this.mono (by omega)
theorem bd_laidN {n m k : Nat} {f g : List Int} (hf : Bd n f) (hg : Bd m g) (hl : f.length + g.length ≤ 64) (hk : k ≤ 6) : ∀ i, i ≤ k + 1 → Bd (n + m + 12 * k + 11 + i) (laidN k f g i)
  | 0, _ => bd_zeros _ _
  | i + 1, hi => by
    have h1 := bd_laidN hf hg hl hk i (by omega)
    have h2 := bd_scaled (bd_lpiece (k := k) hf hg hl (i := i) (by omega)) (lots_lt hk (by omega : i ≤ k))
    have h3 : Bd (n + m + 12 * k + 11 + i) (scaled (lpiece k f g i) (sg k i)) := h2.mono (by omega)
    exact bd_plus h1 h3
theorem bd_laid {n m k : Nat} {f g : List Int} (hf : Bd n f) (hg : Bd m g) (hl : f.length + g.length ≤ 64) (hk : k ≤ 6) : Bd (n + m + 96) (laid k f g) :=
  (bd_laidN hf hg hl hk (k + 1) (Nat.le_refl _)).mono (by omega)
theorem bd_append {n : Nat} {f g : List Int} (h : Bd n f) (h2 : Bd n g) : Bd n (f ++ g) := Bd.of fun x hx => by
  rcases List.mem_append.mp hx with q | q
  · exact h.mem q
  · exact h2.mem q
theorem bd_changedN {n m : Nat} {a b f : List Int} (ha : Bd m a) (hb : Bd m b) (hla : a.length = 2) (hlb : b.length = 2) (hf : Bd n f) (hl : f.length ≤ 7) : ∀ i, i ≤ f.length → Bd (n + 6 * (m + 6) + 8 + i) (changedN a b f i)
  | 0, _ => bd_zeros _ _
  | i + 1, hi => by
    have h1 := bd_changedN ha hb hla hlb hf hl i (by omega)
    have e1 := bd_powL ha (by omega) (f.length - 1 - i) (by rw [hla]; omega)
    have e2 := bd_powL hb (by omega) i (by rw [hlb]; omega)
    have h2 := bd_prod e1 e2 (by rw [powL_length2 hla, powL_length2 hlb]; omega)
    have h3 := bd_scaled h2 (hf i)
    have h4 : Bd (n + 6 * (m + 6) + 8 + i) (scaled (piece a b f i) (co f i)) := by
      refine h3.mono ?_
      have e3 : (f.length - 1 - i) * (m + 6) + i * (m + 6) = (f.length - 1 - i + i) * (m + 6) := (Nat.add_mul _ _ _).symm
      have e4 : (f.length - 1 - i + i) * (m + 6) ≤ 6 * (m + 6) := Nat.mul_le_mul_right _ (by omega)
      omega
    exact bd_plus h1 h4
theorem bd_changed {n m : Nat} {a b f : List Int} (ha : Bd m a) (hb : Bd m b) (hla : a.length = 2) (hlb : b.length = 2) (hf : Bd n f) (hl : f.length ≤ 7) : Bd (n + 6 * (m + 6) + 15) (changed a b f) :=
  (bd_changedN ha hb hla hlb hf hl f.length (Nat.le_refl _)).mono (by omega)
/-- the told invariants -/
theorem bd_inv {n : Nat} {f : List Int} (hf : Bd n f) (hl : f.length ≤ 7) : Bd (12 * n + 1056) (inv f) := by
  have L : ∀ {k a b : Nat} {g h : List Int}, k ≤ 6 → k < g.length → k < h.length → g.length ≤ 12 → h.length ≤ 12 → Bd a g → Bd b h → Bd (a + b + 96) (laid k g h) ∧ (laid k g h).length = g.length + h.length - 1 - 2 * k := fun hk h1 h2 h3 h4 h5 h6 => ⟨bd_laid h5 h6 (by omega) hk, laid_length h1 h2⟩
  unfold inv
  split
  · exact (L (by omega) (by omega) (by omega) (by omega) (by omega) hf hf).1.mono (by omega)
  split
  · obtain ⟨b1, l1⟩ := L (k := 2) (by omega) (by omega) (by omega) (by omega) (by omega) hf hf
    exact (L (k := 2) (by omega) (by omega) (by omega) (by omega) (by omega) b1 b1).1.mono (by omega)
  split
  · obtain ⟨b1, l1⟩ := L (k := 2) (by omega) (by omega) (by omega) (by omega) (by omega) hf hf
    exact bd_append ((L (k := 4) (by omega) (by omega) (by omega) (by omega) (by omega) hf hf).1.mono (by omega)) ((L (k := 4) (by omega) (by omega) (by omega) (by omega) (by omega) hf b1).1.mono (by omega))
  split
  · obtain ⟨b1, l1⟩ := L (k := 4) (by omega) (by omega) (by omega) (by omega) (by omega) hf hf
    obtain ⟨b2, l2⟩ := L (k := 2) (by omega) (by omega) (by omega) (by omega) (by omega) hf b1
    obtain ⟨b3, l3⟩ := L (k := 2) (by omega) (by omega) (by omega) (by omega) (by omega) b2 b2
    exact bd_append (bd_append ((L (k := 2) (by omega) (by omega) (by omega) (by omega) (by omega) b1 b1).1.mono (by omega)) ((L (k := 2) (by omega) (by omega) (by omega) (by omega) (by omega) b1 b3).1.mono (by omega))) ((L (k := 2) (by omega) (by omega) (by omega) (by omega) (by omega) b3 b3).1.mono (by omega))
  split
  · obtain ⟨b1, l1⟩ := L (k := 4) (by omega) (by omega) (by omega) (by omega) (by omega) hf hf
    obtain ⟨b2, l2⟩ := L (k := 4) (by omega) (by omega) (by omega) (by omega) (by omega) hf b1
    obtain ⟨b3, l3⟩ := L (k := 2) (by omega) (by omega) (by omega) (by omega) (by omega) b1 b1
    obtain ⟨b4, l4⟩ := L (k := 2) (by omega) (by omega) (by omega) (by omega) (by omega) b1 b2
    obtain ⟨b5, l5⟩ := L (k := 2) (by omega) (by omega) (by omega) (by omega) (by omega) b1 b4
    exact bd_append (bd_append (bd_append ((L (k := 6) (by omega) (by omega) (by omega) (by omega) (by omega) hf hf).1.mono (by omega)) ((L (k := 4) (by omega) (by omega) (by omega) (by omega) (by omega) b1 b1).1.mono (by omega))) ((L (k := 4) (by omega) (by omega) (by omega) (by omega) (by omega) b1 b3).1.mono (by omega))) ((L (k := 2) (by omega) (by omega) (by omega) (by omega) (by omega) b5 b2).1.mono (by omega))
  · exact Bd.of fun x hx => by cases hx
end K45
namespace K45
/-! ### the loops of a product -/
def inN (x : Int) (g : List Int) (i : Nat) (l : List Int) : Nat → List Int
  | 0 => l
  | j + 1 => (inN x g i l j).set (i + j) (co (inN x g i l j) (i + j) + x * co g j)
def ouN (x : Nat → Int) (g : List Int) (l : List Int) : Nat → List Int
  | 0 => l
  | i + 1 => inN (x i) g i (ouN x g l i) g.length
theorem inN_length (x : Int) (g : List Int) (i : Nat) (l : List Int) : ∀ j, (inN x g i l j).length = l.length
  | 0 => rfl
  | j + 1 => by rw [inN, List.length_set, inN_length x g i l j]
theorem ouN_length (x : Nat → Int) (g l : List Int) : ∀ i, (ouN x g l i).length = l.length
  | 0 => rfl
  | i + 1 => by rw [ouN, inN_length, ouN_length x g l i]
theorem co_set {l : List Int} {i : Nat} {v : Int} (h : i < l.length) (k : Nat) : co (l.set i v) k = if k = i then v else co l k := by
  by_cases e : k = i
  · subst e; rw [if_pos rfl, co_lt (by simpa using h)]; simp
  · rw [if_neg e]
    unfold co
    rw [List.getD_eq_getElem?_getD, List.getElem?_set_ne (Ne.symm e), ← List.getD_eq_getElem?_getD]
theorem co_inN (x : Int) (g : List Int) (i : Nat) (l : List Int) (k : Nat) : ∀ j, i + j ≤ l.length → co (inN x g i l j) k = co l k + (if i ≤ k ∧ k < i + j then x * co g (k - i) else 0)
  | 0, h => by
    rw [if_neg (by omega)]; simp [inN]
  | j + 1, h => by
    rw [inN, co_set (by rw [inN_length]; omega)]
    by_cases e : k = i + j
    · rw [if_pos e, if_pos (by omega), e, co_inN x g i l (i + j) j (by omega), if_neg (by omega)]
      have : i + j - i = j := by omega
      rw [this]; omega
    · rw [if_neg e, co_inN x g i l k j (by omega)]
      by_cases e2 : i ≤ k ∧ k < i + j
      · rw [if_pos e2, if_pos (by omega)]
      · rw [if_neg e2, if_neg (by omega)]
theorem conv_delta (x : Int) (b : Nat → Int) : ∀ (i k : Nat), conv (fun a => if a = i then x else 0) b k = if i ≤ k then x * b (k - i) else 0
  | 0, 0 => by simp [conv]
  | 0, k + 1 => by
    rw [conv]
    have e : (fun j : Nat => if j + 1 = 0 then x else (0 : Int)) = fun _ => 0 := by funext j; simp
    rw [e, conv_zero]; simp
  | i + 1, 0 => by simp [conv]
  | i + 1, k + 1 => by
    rw [conv]
    have e : (fun j : Nat => if j + 1 = i + 1 then x else (0 : Int)) = fun j => if j = i then x else 0 := by funext j; simp
    rw [e, conv_delta x b i k, if_neg (by omega)]
    by_cases h : i ≤ k
    · rw [if_pos h, if_pos (by omega), show k + 1 - (i + 1) = k - i by omega]; omega
    · rw [if_neg h, if_neg (by omega)]; omega
theorem co_ouN (x : Nat → Int) (g l : List Int) (k : Nat) : ∀ n, n + g.length ≤ l.length + 1 → co (ouN x g l n) k = co l k + conv (fun a => if a < n then x a else 0) (co g) k
  | 0, h => by
    have e : (fun a : Nat => if a < 0 then x a else (0 : Int)) = fun _ => 0 := by funext j; simp
    rw [e, conv_zero]; simp [ouN]
  | n + 1, h => by
    rw [ouN, co_inN _ _ _ _ _ _ (by rw [ouN_length]; omega), co_ouN x g l k n (by omega)]
    have e : (fun a : Nat => if a < n + 1 then x a else (0 : Int)) = fun a => (if a < n then x a else 0) + (if a = n then x n else 0) := by
      funext a
      by_cases h1 : a < n
      · rw [if_pos h1, if_pos (by omega), if_neg (by omega)]; omega
      · by_cases h2 : a = n
        · subst h2; rw [if_neg h1, if_pos (by omega), if_pos rfl]; omega
        · rw [if_neg h1, if_neg h2, if_neg (by omega)]; omega
    rw [e, conv_add', conv_delta]
    by_cases h3 : n ≤ k
    · rw [if_pos h3]
      by_cases h4 : k < n + g.length
      · rw [if_pos ⟨h3, h4⟩]; omega
      · rw [if_neg (by omega), co_ge (f := g) (k := k - n) (by omega)]; omega
    · rw [if_neg h3, if_neg (by omega)]; omega
theorem ouN_prod {f g : List Int} (hf : 1 ≤ f.length) (hg : 1 ≤ g.length) : ouN (co f) g (zeros (f.length + g.length - 1)) f.length = prod f g := by
  apply co_ext
  · rw [ouN_length, zeros_length, prod_length]
  · intro k
    rw [co_ouN _ _ _ _ _ (by rw [zeros_length]; omega), co_zeros, co_prod hf hg]
    have e : (fun a : Nat => if a < f.length then co f a else (0 : Int)) = co f := by
      funext a
      by_cases h : a < f.length
      · rw [if_pos h]
      · rw [if_neg h, co_ge (by omega)]
    rw [e]; omega
theorem ouN_add {f g l : List Int} (c : Int) (hf : 1 ≤ f.length) (hg : 1 ≤ g.length) (hl : l.length = f.length + g.length - 1) : ouN (fun i => c * co f i) g l f.length = plus l (scaled (prod f g) c) := by
  apply co_ext
  · rw [ouN_length, plus_length, scaled_length, prod_length]; omega
  · intro k
    rw [co_ouN _ _ _ _ _ (by omega), co_plus (by rw [scaled_length, prod_length, hl]), co_scaled, co_prod hf hg]
    have e : (fun a : Nat => if a < f.length then c * co f a else (0 : Int)) = fun a => c * co f a := by
      funext a
      by_cases h : a < f.length
      · rw [if_pos h]
      · rw [if_neg h, co_ge (by omega)]; omega
    rw [e, conv_smul']
/-! ### what is shared -/
def shg (f : List Int) : Int := f.foldl (fun a b => ((Int.gcd a b : Nat) : Int)) 0
theorem shg_aux : ∀ (f : List Int) (a : Int), 0 ≤ a → (f.foldl (fun a b => ((Int.gcd a b : Nat) : Int)) a = 0 ↔ a = 0 ∧ ∀ x ∈ f, x = 0) ∧ 0 ≤ f.foldl (fun a b => ((Int.gcd a b : Nat) : Int)) a
  | [], a, h => by simp [h]
  | x :: f, a, h => by
    obtain ⟨h1, h2⟩ := shg_aux f ((Int.gcd a x : Nat) : Int) (by omega)
    refine ⟨?_, h2⟩
    rw [List.foldl_cons, h1]
    have e : ((Int.gcd a x : Nat) : Int) = 0 ↔ a = 0 ∧ x = 0 := by
      rw [Int.natCast_eq_zero, Int.gcd_eq_zero_iff]
    rw [e]
    simp only [List.forall_mem_cons]
    exact ⟨fun ⟨⟨a, b⟩, c⟩ => ⟨a, b, c⟩, fun ⟨a, b, c⟩ => ⟨⟨a, b⟩, c⟩⟩
theorem shg_zero (f : List Int) : shg f = 0 ↔ ∀ x ∈ f, x = 0 := by
  have := (shg_aux f 0 (by omega)).1
  rw [shg, this]; simp
theorem shg_nonneg (f : List Int) : 0 ≤ shg f := (shg_aux f 0 (by omega)).2
theorem shg_take {f : List Int} {i : Nat} (h : i < f.length) : shg (f.take (i + 1)) = ((Int.gcd (shg (f.take i)) (co f i) : Nat) : Int) := by
  rw [shg, List.take_succ_eq_append_getElem h, List.foldl_append, co_lt h]; rfl
end K45
/-! A small logic over the hand layer's readings: what is known of the slots (Rl: facts that only growth and stores to lists leave), of the lists at known places (Ms), of the entry. -/
namespace K45
open PySem PySem.Spec PyProof.Rows L2
/-- what may be found where o stood: a table of code objects may have grown -/
def St (H' : Hp) (a : Addr) : HO → Prop
  | .tbl ps => ∃ qs : Array Value, H' a = some (.tbl qs) ∧ (TriplesOk ps.toList → TriplesOk qs.toList)
  | o => H' a = some o
def Sm (o o' : HO) : Prop := o' = o ∨ (∃ ps, o = .tbl ps) ∧ ∃ ps, o' = .tbl ps
theorem St.of {H' : Hp} {a : Addr} {o : HO} (e : H' a = some o) : St H' a o := by
  cases o with
  | tbl ps => exact ⟨ps, e, id⟩
  | _ => exact e
theorem St.bind {H1 H2 : Hp} {a b : Addr} {o : HO} (h : St H1 a o) (f : ∀ o', H1 a = some o' → Sm o o' → St H2 b o') : St H2 b o := by
  cases o with
  | tbl ps => exact let ⟨qs, e, k⟩ := h; let ⟨us, e2, k2⟩ := f (.tbl qs) e (.inr ⟨⟨_, rfl⟩, _, rfl⟩); ⟨us, e2, k2 ∘ k⟩
  | _ => exact f _ h (.inl rfl)
theorem St.ex {H' : Hp} {a : Addr} {o : HO} (h : St H' a o) : ∃ o', H' a = some o' := by
  cases o with
  | tbl ps => exact let ⟨_, e, _⟩ := h; ⟨_, e⟩
  | _ => exact ⟨_, h⟩
theorem Sm.lst {o o' : HO} (s : Sm o o') (n : ∀ xs, o ≠ .lst xs) : ∀ xs, o' ≠ .lst xs := fun xs e => by
  rcases s with s | ⟨_, ps, s⟩
  · exact n xs (s.symm.trans e)
  · rw [s] at e; cases e
/-- all that is no list stays -/
def Im (H H' : Hp) : Prop := ∀ a o, H a = some o → (∀ xs, o ≠ .lst xs) → St H' a o
/-- all but what stands at ds stays -/
def Kp (ds : List Addr) (H H' : Hp) : Prop := ∀ a o, H a = some o → a ∉ ds → St H' a o
theorem Im.refl (H : Hp) : Im H H := fun _ _ h _ => St.of h
theorem Im.trans {H H1 H2 : Hp} (a : Im H H1) (b : Im H1 H2) : Im H H2 := fun x o h n => (a x o h n).bind fun o' h' s => b x o' h' (s.lst n)
theorem Kp.refl (ds : List Addr) (H : Hp) : Kp ds H H := fun _ _ h _ => St.of h
theorem Kp.trans {ds : List Addr} {H H1 H2 : Hp} (a : Kp ds H H1) (b : Kp ds H1 H2) : Kp ds H H2 := fun x o h n => (a x o h n).bind fun o' h' _ => b x o' h' n
theorem Kp.any {ds : List Addr} {H H' : Hp} (a : Kp [] H H') : Kp ds H H' := fun x o h _ => a x o h (by simp)
theorem Kp.new {H : Hp} {p : Addr} {o : HO} (h : H p = none) : Kp [] H (upd H p o) := fun a u e _ => St.of (by
  rw [upd_ne (ne_of_none e h)]; exact e)
theorem Kp.im0 {H H' : Hp} (a : Kp [] H H') : Im H H' := fun x o h _ => a x o h (by simp)
structure Rl where
  p : V → Hp → Prop
  mono : ∀ {v : V} {H H' : Hp}, Im H H' → p v H → p v H'
structure Gh where
  p : Hp → Prop
  mono : ∀ {H H' : Hp}, Im H H' → p H → p H'
abbrev Ms := List (Addr × (List V → Prop))
def ads (ms : Ms) : List Addr := ms.map Prod.fst
def Mems (ms : Ms) (H : Hp) : Prop := ∀ m ∈ ms, ∃ xs, m.2 xs ∧ H m.1 = some (.lst xs)
/-- the entry's heap, what of it may change, further facts -/
structure Ct where
  H0 : Hp
  d0 : List Addr
  gs : List Gh
structure At (c : Ct) (rs : List (Option Rl)) (ms : Ms) (σ : L2.St) (H : Hp) : Prop where
  kp : Kp c.d0 c.H0 H
  fr : ∀ a ∈ ads ms, a ∈ c.d0 ∨ c.H0 a = none
  ds : ∀ a ∈ c.d0, a ∈ ads ms
  gh : ∀ g ∈ c.gs, g.p H
  len : σ.length = rs.length
  sl : ∀ (i : Nat) (r : Rl), rs[i]? = some (some r) → ∃ v, σ[i]? = some (some v) ∧ r.p v H
  me : Mems ms H
  nd : (ads ms).Nodup
theorem mem_ads {ms : Ms} {m : Addr × (List V → Prop)} (h : m ∈ ms) : m.1 ∈ ads ms := List.mem_map_of_mem h
theorem of_ads {ms : Ms} {a : Addr} (h : a ∈ ads ms) : ∃ m ∈ ms, m.1 = a := List.mem_map.mp h
theorem ms_uniq : ∀ {l : Ms}, (ads l).Nodup → ∀ {x y : Addr × (List V → Prop)}, x ∈ l → y ∈ l → x.1 = y.1 → x = y
  | [], _, x, y, hx, _, _ => by cases hx
  | z :: l, hn, x, y, hx, hy, hxy => by
    have hn' : z.1 ∉ ads l ∧ (ads l).Nodup := List.nodup_cons.mp hn
    rcases List.mem_cons.mp hx with e | hx'
    · rcases List.mem_cons.mp hy with e2 | hy'
      · rw [e, e2]
      · refine absurd ?_ hn'.1
        rw [← e, hxy]; exact mem_ads hy'
    · rcases List.mem_cons.mp hy with e2 | hy'
      · refine absurd ?_ hn'.1
        rw [← e2, ← hxy]; exact mem_ads hx'
      · exact ms_uniq hn'.2 hx' hy' hxy
theorem Kp.im {ms : Ms} {H H' : Hp} (k : Kp (ads ms) H H') (m : Mems ms H) : Im H H' := fun a o h n => k a o h fun ha => by
  obtain ⟨x, hx, rfl⟩ := of_ads ha
  obtain ⟨xs, _, e⟩ := m x hx
  rw [h] at e
  exact n xs (Option.some.inj e)
section
variable {c : Ct} {rs rs' : List (Option Rl)} {ms ms' : Ms} {σ : L2.St} {H H' : Hp}
theorem At.kp' (h : At c rs ms σ H) (k : Kp (ads ms) H H') : Kp c.d0 c.H0 H' := fun a o e n => by
  refine (h.kp a o e n).bind fun o' e' _ => k a o' e' fun ha => ?_
  rcases h.fr a ha with z | z
  · exact n z
  · rw [z] at e; cases e
theorem At.step (h : At c rs ms σ H) (k : Kp (ads ms) H H') (m : Mems ms' H') (e : ads ms' = ads ms) : At c rs ms' σ H' := by
  have i := k.im h.me
  refine ⟨h.kp' k, by rw [e]; exact h.fr, by rw [e]; exact h.ds, fun g hg => g.mono i (h.gh g hg), h.len, fun j r hr => ?_, m, by rw [e]; exact h.nd⟩
  obtain ⟨v, e1, e2⟩ := h.sl j r hr
  exact ⟨v, e1, r.mono i e2⟩
theorem At.grow (h : At c rs ms σ H) (k : Kp [] H H') : At c rs ms σ H' := by
  refine h.step k.any (fun m hm => ?_) rfl
  obtain ⟨xs, e1, e2⟩ := h.me m hm
  exact ⟨xs, e1, k _ _ e2 (by simp)⟩
/-- a slot is set -/
theorem At.set (h : At c rs ms σ H) {i : Nat} {v : V} {r : Rl} (hr : r.p v H) : At c (rs.set i (some r)) ms (σ.set i (some v)) H := by
  refine ⟨h.kp, h.fr, h.ds, h.gh, by simpa using h.len, fun j s hs => ?_, h.me, h.nd⟩
  by_cases e : i = j
  · subst e
    by_cases hl : i < rs.length
    · rw [List.getElem?_set_self hl] at hs
      have e2 : r = s := Option.some.inj (Option.some.inj hs)
      subst e2
      exact ⟨v, List.getElem?_set_self (by rw [h.len]; exact hl), hr⟩
    · rw [List.getElem?_eq_none (by simpa using hl)] at hs; cases hs
  · rw [List.getElem?_set_ne e] at hs
    obtain ⟨u, e1, e2⟩ := h.sl j s hs
    exact ⟨u, by rw [List.getElem?_set_ne e]; exact e1, e2⟩
/-- less is known -/
theorem At.weak (h : At c rs ms σ H) (hl : rs'.length = rs.length) (hw : ∀ (i : Nat) (r : Rl), rs'[i]? = some (some r) → ∃ s, rs[i]? = some (some s) ∧ ∀ v, s.p v H → r.p v H) : At c rs' ms σ H := by
  refine ⟨h.kp, h.fr, h.ds, h.gh, by rw [hl]; exact h.len, fun i r hr => ?_, h.me, h.nd⟩
  obtain ⟨s, e1, e2⟩ := hw i r hr
  obtain ⟨v, e3, e4⟩ := h.sl i s e1
  exact ⟨v, e3, e2 v e4⟩
end
/-! ### judgements -/
section
variable (c : Ct) (rs : List (Option Rl)) (ms : Ms)
def EJ (te : TE) (R : Rl) : Prop := ∀ σ H, At c rs ms σ H → ∀ Q : VK, (∀ v H', At c rs ms σ H' → Kp (ads ms) H H' → R.p v H' → Q v H') → te σ H Q
def TJ (tt : TT) (b : Bool) : Prop := ∀ σ H, At c rs ms σ H → ∀ Q : Bool → Hp → Prop, (∀ H', At c rs ms σ H' → Kp (ads ms) H H' → Q b H') → tt σ H Q
def Ps : List Rl → List V → Hp → Prop
  | [], [], _ => True
  | r :: rs, v :: vs, H => r.p v H ∧ Ps rs vs H
  | _, _, _ => False
def AJ (ta : TA) (Rs : List Rl) : Prop := ∀ σ H, At c rs ms σ H → ∀ Q : List V → Hp → Prop, (∀ vs H', At c rs ms σ H' → Kp (ads ms) H H' → Ps Rs vs H' → Q vs H') → ta σ H Q
end
theorem Ps.mono : ∀ {Rs : List Rl} {vs : List V} {H H' : Hp}, Im H H' → Ps Rs vs H → Ps Rs vs H'
  | [], [], _, _, _, _ => trivial
  | r :: rs, v :: vs, _, _, i, h => ⟨r.mono i h.1, Ps.mono i h.2⟩
  | [], _ :: _, _, _, _, h => h.elim
  | _ :: _, [], _, _, _, h => h.elim
theorem Ps.len : ∀ {Rs : List Rl} {vs : List V} {H : Hp}, Ps Rs vs H → vs.length = Rs.length
  | [], [], _, _ => rfl
  | r :: rs, v :: vs, _, h => by simp [Ps.len h.2]
  | [], _ :: _, _, h => h.elim
  | _ :: _, [], _, h => h.elim
theorem Ps.get : ∀ {Rs : List Rl} {vs : List V} {H : Hp}, Ps Rs vs H → ∀ {i : Nat} {r : Rl}, Rs[i]? = some r → ∃ v, vs[i]? = some v ∧ r.p v H
  | r :: rs, v :: vs, _, h, 0, s, e => ⟨v, rfl, by have e2 : r = s := Option.some.inj e; subst e2; exact h.1⟩
  | r :: rs, v :: vs, _, h, i + 1, s, e => Ps.get h.2 (i := i) (by simpa using e)
  | [], _, _, _, _, _, e => by simp at e
  | _ :: _, [], _, h, _, _, _ => h.elim
/-! ### what a value is -/
def IsV (x : V) : Rl := ⟨fun v _ => v = x, fun _ h => h⟩
abbrev IsI (i : Int) : Rl := IsV (.int i)
abbrev IsB (b : Bool) : Rl := IsV (.bl b)
/-- some x with φ -/
def AnyR {α : Type} (φ : α → Prop) (R : α → Rl) : Rl := ⟨fun v H => ∃ x, φ x ∧ (R x).p v H, fun i ⟨x, a, b⟩ => ⟨x, a, (R x).mono i b⟩⟩
abbrev InR (φ : Int → Prop) : Rl := AnyR φ IsI
theorem rd_im {H H' : Hp} {a : Addr} {xs : List V} (i : Im H H') (h : Rd H a (.tup xs)) : Rd H' a (.tup xs) := by
  rcases h with h | ⟨o, h⟩
  · exact .inl (i _ _ h fun _ z => nomatch z)
  · exact .inr ⟨o, i _ _ h fun _ z => nomatch z⟩
theorem sqt_im {K : PySem.W.Frag} {H H' : Hp} {a : Addr} {xs : List V} (i : Im H H') (h : SqT K H a xs) : SqT K H' a xs := by
  rcases h with h | h
  · exact .inl (rd_im i h)
  · exact .inr h
section
variable (K : PySem.W.Frag)
/-- a tuple of such values -/
def TuR (Rs : List Rl) : Rl := ⟨fun v H => ∃ a xs, v = .ref a ∧ SqT K H a xs ∧ Ps Rs xs H, fun i ⟨a, xs, e, h, p⟩ => ⟨a, xs, e, sqt_im i h, p.mono i⟩⟩
/-- a tuple of ints -/
def TuI (ns : List Int) : Rl := ⟨fun v H => ∃ a, v = .ref a ∧ SqT K H a (ns.map V.int), fun i ⟨a, e, h⟩ => ⟨a, e, sqt_im i h⟩⟩
end
theorem ps_ints {H : Hp} : ∀ {ns : List Int} {xs : List V}, Ps (ns.map IsI) xs H ↔ xs = ns.map V.int
  | [], [] => by simp [Ps]
  | [], _ :: _ => by simp [Ps]
  | _ :: _, [] => by simp [Ps]
  | n :: ns, x :: xs => by
    have h := ps_ints (H := H) (ns := ns) (xs := xs)
    show (x = V.int n ∧ Ps (ns.map IsI) xs H) ↔ x :: xs = V.int n :: ns.map V.int
    rw [h]; simp
theorem tr_ti {K : PySem.W.Frag} {ns : List Int} {v : V} {H : Hp} : (TuR K (ns.map IsI)).p v H ↔ (TuI K ns).p v H := by
  constructor
  · rintro ⟨a, xs, e, h, p⟩
    rw [ps_ints] at p
    exact ⟨a, e, p ▸ h⟩
  · rintro ⟨a, e, h⟩
    exact ⟨a, _, e, h, ps_ints.mpr rfl⟩
/-! ### expressions -/
section
variable {c : Ct} {rs : List (Option Rl)} {ms : Ms} {K : PySem.W.Frag} {R R' Ra Rb Rc : Rl} {te ta tb tc : TE} {tt tu : TT}
theorem EJ.weak (h : EJ c rs ms te R) (w : ∀ v H, R.p v H → R'.p v H) : EJ c rs ms te R' := fun σ H a Q q => h σ H a Q fun v H' a' k r => q v H' a' k (w v H' r)
theorem e_var {i : Nat} (h : rs[i]? = some (some R)) : EJ c rs ms (tVar i) R := fun σ H a Q q => by
  obtain ⟨v, e1, e2⟩ := a.sl i R h
  exact ⟨v, e1, q v H a (Kp.refl _ _) e2⟩
theorem e_c {x : V} : EJ c rs ms (tC x) (IsV x) := fun σ H a Q q => q x H a (Kp.refl _ _) rfl
/-- an operator that leaves the heap -/
theorem e_op {r : R2} (ha : EJ c rs ms ta Ra) (hb : EJ c rs ms tb Rb) (hr : ∀ x y H, Ra.p x H → Rb.p y H → ∀ Q : VK, (∀ v H', Kp [] H H' → Rc.p v H' → Q v H') → r x y H Q) : EJ c rs ms (tOp r ta tb) Rc := fun σ H a Q q =>
  ha σ H a _ fun x H1 a1 k1 p1 => hb σ H1 a1 _ fun y H2 a2 k2 p2 => hr x y H2 (Ra.mono (k2.im a1.me) p1) p2 Q fun v H3 k3 p3 => q v H3 (a2.grow k3) ((k1.trans k2).trans k3.any) p3
theorem e_opI0 {g : Int → Int → V} {i j : Int} (ha : EJ c rs ms ta (IsI i)) (hb : EJ c rs ms tb (IsI j)) : EJ c rs ms (tOp (rI0 g) ta tb) (IsV (g i j)) :=
  e_op ha hb fun x y H hx hy Q q => ⟨i, j, hx, hy, q _ H (Kp.refl _ _) rfl⟩
theorem e_opI {C : Int → Int → Prop} {g : Int → Int → V} {i j : Int} (ha : EJ c rs ms ta (IsI i)) (hb : EJ c rs ms tb (IsI j)) (hc : C i j) : EJ c rs ms (tOp (rI C g) ta tb) (IsV (g i j)) :=
  e_op ha hb fun x y H hx hy Q q => ⟨i, j, hx, hy, hc, q _ H (Kp.refl _ _) rfl⟩
/-- with numbers that are not told -/
theorem e_opN0 {g : Int → Int → Int} {φ ψ χ : Int → Prop} (ha : EJ c rs ms ta (InR φ)) (hb : EJ c rs ms tb (InR ψ)) (hc : ∀ i j, φ i → ψ j → χ (g i j)) : EJ c rs ms (tOp (rI0 fun i j => .int (g i j)) ta tb) (InR χ) :=
  e_op ha hb fun x y H ⟨i, hi, hx⟩ ⟨j, hj, hy⟩ Q q => ⟨i, j, hx, hy, q _ H (Kp.refl _ _) ⟨_, hc i j hi hj, rfl⟩⟩
theorem e_opN {C : Int → Int → Prop} {g : Int → Int → Int} {φ ψ χ : Int → Prop} (ha : EJ c rs ms ta (InR φ)) (hb : EJ c rs ms tb (InR ψ)) (hc : ∀ i j, φ i → ψ j → C i j ∧ χ (g i j)) : EJ c rs ms (tOp (rI C fun i j => .int (g i j)) ta tb) (InR χ) :=
  e_op ha hb fun x y H ⟨i, hi, hx⟩ ⟨j, hj, hy⟩ Q q => ⟨i, j, hx, hy, (hc i j hi hj).1, q _ H (Kp.refl _ _) ⟨_, (hc i j hi hj).2, rfl⟩⟩
theorem EJ.one {i : Int} (h : EJ c rs ms te (IsI i)) : EJ c rs ms te (InR (· = i)) := h.weak fun v H e => ⟨i, rfl, e⟩
theorem e_eqI {i j : Int} (ha : EJ c rs ms ta (IsI i)) (hb : EJ c rs ms tb (IsI j)) : EJ c rs ms (tOp rEq ta tb) (IsB (decide (i = j))) :=
  e_op ha hb fun x y H hx hy Q q => by
    cases (show x = .int i from hx); cases (show y = .int j from hy)
    refine ⟨rfl, q _ H (Kp.refl _ _) ?_⟩
    show V.bl _ = V.bl _
    congr 1; simp
theorem e_neI {i j : Int} (ha : EJ c rs ms ta (IsI i)) (hb : EJ c rs ms tb (IsI j)) : EJ c rs ms (tOp rNe ta tb) (IsB (!decide (i = j))) :=
  e_op ha hb fun x y H hx hy Q q => by
    cases (show x = .int i from hx); cases (show y = .int j from hy)
    refine ⟨rfl, q _ H (Kp.refl _ _) ?_⟩
    show V.bl _ = V.bl _
    congr 2; simp
theorem e_neB {i j : Bool} (ha : EJ c rs ms ta (IsB i)) (hb : EJ c rs ms tb (IsB j)) : EJ c rs ms (tOp rNe ta tb) (IsB (!decide (i = j))) :=
  e_op ha hb fun x y H hx hy Q q => by
    cases (show x = .bl i from hx); cases (show y = .bl j from hy)
    refine ⟨rfl, q _ H (Kp.refl _ _) ?_⟩
    show V.bl _ = V.bl _
    congr 2; simp
theorem e_neS {i j : Str} (ha : EJ c rs ms ta (IsV (.str i))) (hb : EJ c rs ms tb (IsV (.str j))) : EJ c rs ms (tOp rNe ta tb) (IsB (!decide (i = j))) :=
  e_op ha hb fun x y H hx hy Q q => by
    cases (show x = .str i from hx); cases (show y = .str j from hy)
    refine ⟨rfl, q _ H (Kp.refl _ _) ?_⟩
    show V.bl _ = V.bl _
    congr 2; simp
theorem e_eqS {i j : Str} (ha : EJ c rs ms ta (IsV (.str i))) (hb : EJ c rs ms tb (IsV (.str j))) : EJ c rs ms (tOp rEq ta tb) (IsB (decide (i = j))) :=
  e_op ha hb fun x y H hx hy Q q => by
    cases (show x = .str i from hx); cases (show y = .str j from hy)
    refine ⟨rfl, q _ H (Kp.refl _ _) ?_⟩
    show V.bl _ = V.bl _
    congr 1; simp
theorem e_neg {i : Int} (ha : EJ c rs ms ta (IsI i)) : EJ c rs ms (tUn (rU fun i => .int (-i)) ta) (IsI (-i)) := fun σ H a Q q =>
  ha σ H a _ fun x H1 a1 k1 p1 => ⟨i, p1, q _ H1 a1 k1 rfl⟩
/-! ### tests -/
theorem t_test {b : Bool} (h : EJ c rs ms te (IsB b)) : TJ c rs ms (tTest te) b := fun σ H a Q q => h σ H a _ fun v H1 a1 k1 p1 => ⟨b, p1, q H1 a1 k1⟩
theorem t_b {b : Bool} (h : EJ c rs ms te (IsB b)) : TJ c rs ms (tB te) b := fun σ H a Q q => h σ H a _ fun v H1 a1 k1 p1 => ⟨b, p1, q H1 a1 k1⟩
theorem t_and {a b : Bool} (h1 : TJ c rs ms tt a) (h2 : a = true → TJ c rs ms tu b) : TJ c rs ms (tAnd tt tu) (a && b) := fun σ H e Q q => h1 σ H e _ fun H1 e1 k1 => by
  cases a with
  | true => exact h2 rfl σ H1 e1 Q fun H2 e2 k2 => q H2 e2 (k1.trans k2)
  | false => exact q H1 e1 k1
theorem t_or {a b : Bool} (h1 : TJ c rs ms tt a) (h2 : a = false → TJ c rs ms tu b) : TJ c rs ms (tOr tt tu) (a || b) := fun σ H e Q q => h1 σ H e _ fun H1 e1 k1 => by
  cases a with
  | true => exact q H1 e1 k1
  | false => exact h2 rfl σ H1 e1 Q fun H2 e2 k2 => q H2 e2 (k1.trans k2)
theorem t_not {a : Bool} (h1 : TJ c rs ms tt a) : TJ c rs ms (tNot tt) (!a) := fun σ H e Q q => h1 σ H e _ fun H1 e1 k1 => q H1 e1 k1
theorem TJ.is {a b : Bool} (h : TJ c rs ms tt a) (e : a = b) : TJ c rs ms tt b := e ▸ h
theorem e_if {b : Bool} (h : TJ c rs ms tt b) (h1 : b = true → EJ c rs ms ta R) (h2 : b = false → EJ c rs ms tb R) : EJ c rs ms (tIf tt ta tb) R := fun σ H e Q q => h σ H e _ fun H1 e1 k1 => by
  cases b with
  | true => exact h1 rfl σ H1 e1 Q fun v H2 e2 k2 p => q v H2 e2 (k1.trans k2) p
  | false => exact h2 rfl σ H1 e1 Q fun v H2 e2 k2 p => q v H2 e2 (k1.trans k2) p
theorem e_ifI {b : Bool} {i j : Int} (h : TJ c rs ms tt b) (h1 : EJ c rs ms ta (IsI i)) (h2 : EJ c rs ms tb (IsI j)) : EJ c rs ms (tIf tt ta tb) (IsI (if b = true then i else j)) :=
  e_if h (fun e => by subst e; exact h1) fun e => by subst e; exact h2
theorem e_andV {a b : Bool} (h1 : EJ c rs ms ta (IsB a)) (h2 : a = true → EJ c rs ms tb (IsB b)) : EJ c rs ms (tAndV ta tb) (IsB (a && b)) := fun σ H e Q q => h1 σ H e _ fun v H1 e1 k1 p => ⟨a, p, by
  cases a with
  | true => exact h2 rfl σ H1 e1 Q fun v H2 e2 k2 p => q v H2 e2 (k1.trans k2) p
  | false => exact q _ H1 e1 k1 rfl⟩
theorem e_orV {a b : Bool} (h1 : EJ c rs ms ta (IsB a)) (h2 : a = false → EJ c rs ms tb (IsB b)) : EJ c rs ms (tOrV ta tb) (IsB (a || b)) := fun σ H e Q q => h1 σ H e _ fun v H1 e1 k1 p => ⟨a, p, by
  cases a with
  | true => exact q _ H1 e1 k1 rfl
  | false => exact h2 rfl σ H1 e1 Q fun v H2 e2 k2 p => q v H2 e2 (k1.trans k2) p⟩
theorem e_notV {a : Bool} (h1 : EJ c rs ms ta (IsB a)) : EJ c rs ms (tNotV ta) (IsB (!a)) := fun σ H e Q q => h1 σ H e _ fun v H1 e1 k1 p => ⟨a, p, q _ H1 e1 k1 rfl⟩
theorem e_chain {g g' : Int → Int → Bool} {i j l : Int} (ha : EJ c rs ms ta (IsI i)) (hb : EJ c rs ms tb (IsI j)) (hc : EJ c rs ms tc (IsI l)) : EJ c rs ms (tChain (rI0 fun i j => .bl (g i j)) (rI0 fun i j => .bl (g' i j)) ta tb tc) (IsB (g i j && g' j l)) := fun σ H e Q q =>
  ha σ H e _ fun x H1 e1 k1 p1 => hb σ H1 e1 _ fun y H2 e2 k2 p2 => ⟨i, j, p1, p2, g i j, rfl, by
    cases hg : g i j with
    | true =>
      refine hc σ H2 e2 _ fun z H3 e3 k3 p3 => ⟨j, l, p2, p3, q _ H3 e3 ((k1.trans k2).trans k3) ?_⟩
      rw [hg]; rfl
    | false => exact q _ H2 e2 (k1.trans k2) (by rw [hg]; rfl)⟩
/-! ### arguments, calls -/
theorem a_nil : AJ c rs ms tNil [] := fun σ H a Q q => q [] H a (Kp.refl _ _) trivial
theorem a_cons {tr : TA} {Rs : List Rl} (h : EJ c rs ms te R) (hr : AJ c rs ms tr Rs) : AJ c rs ms (tCons te tr) (R :: Rs) := fun σ H a Q q =>
  h σ H a _ fun v H1 a1 k1 p1 => hr σ H1 a1 _ fun vs H2 a2 k2 p2 => q _ H2 a2 (k1.trans k2) ⟨R.mono (k2.im a1.me) p1, p2⟩
/-- a built-in's call that leaves what is known -/
theorem e_cb {r : List V → Hp → VK → Prop} {tr : TA} {Rs : List Rl} (h : AJ c rs ms tr Rs) (hr : ∀ vs H, Ps Rs vs H → ∀ Q : VK, (∀ v H', Kp [] H H' → R.p v H' → Q v H') → r vs H Q) : EJ c rs ms (tCB r tr) R := fun σ H a Q q =>
  h σ H a _ fun vs H1 a1 k1 p1 => hr vs H1 p1 Q fun v H2 k2 p2 => q v H2 (a1.grow k2) (k1.trans k2.any) p2
theorem ps1 {R : Rl} {vs : List V} {H : Hp} (h : Ps [R] vs H) : ∃ v, vs = [v] ∧ R.p v H := by
  match vs, h with
  | [v], h => exact ⟨v, rfl, h.1⟩
theorem ps2 {R S : Rl} {vs : List V} {H : Hp} (h : Ps [R, S] vs H) : ∃ v w, vs = [v, w] ∧ R.p v H ∧ S.p w H := by
  match vs, h with
  | [v, w], h => exact ⟨v, w, rfl, h.1, h.2.1⟩
abbrev rLen (K : PySem.W.Frag) : List V → Hp → VK → Prop := fun xs H Q => ∃ p ys, xs = [.ref p] ∧ (SqL K H p ys ∨ SqT K H p ys) ∧ Q (.int ys.length) H
theorem e_lenI {ns : List Int} (h : EJ c rs ms te (TuI K ns)) : EJ c rs ms (tCB (rLen K) (tCons te tNil)) (IsI (ns.length : Int)) :=
  e_cb (a_cons h a_nil) fun vs H p Q q => by
    obtain ⟨v, rfl, a, rfl, h⟩ := ps1 p
    refine ⟨a, _, rfl, .inr h, q _ H (Kp.refl _ _) ?_⟩
    show V.int _ = V.int _
    rw [List.length_map]
theorem e_lenR {Rs : List Rl} (h : EJ c rs ms te (TuR K Rs)) : EJ c rs ms (tCB (rLen K) (tCons te tNil)) (IsI (Rs.length : Int)) :=
  e_cb (a_cons h a_nil) fun vs H p Q q => by
    obtain ⟨v, rfl, a, xs, rfl, h, hp⟩ := ps1 p
    refine ⟨a, _, rfl, .inr h, q _ H (Kp.refl _ _) ?_⟩
    show V.int _ = V.int _
    rw [hp.len]
theorem e_abs {i : Int} (h : EJ c rs ms te (IsI i)) : EJ c rs ms (tCB (fun xs H Q => ∃ i, xs = [.int i] ∧ Q (.int (if i < 0 then -i else i)) H) (tCons te tNil)) (IsI (if i < 0 then -i else i)) :=
  e_cb (a_cons h a_nil) fun vs H p Q q => by
    obtain ⟨v, rfl, h⟩ := ps1 p
    exact ⟨i, by rw [show v = .int i from h], q _ H (Kp.refl _ _) rfl⟩
theorem e_max {i j : Int} (h : EJ c rs ms ta (IsI i)) (h' : EJ c rs ms tb (IsI j)) : EJ c rs ms (tCB (fun xs H Q => ∃ i j, xs = [.int i, .int j] ∧ Q (.int (if j > i then j else i)) H) (tCons ta (tCons tb tNil))) (IsI (if j > i then j else i)) :=
  e_cb (a_cons h (a_cons h' a_nil)) fun vs H p Q q => by
    obtain ⟨v, w, rfl, h, h'⟩ := ps2 p
    exact ⟨i, j, by rw [show v = .int i from h, show w = .int j from h'], q _ H (Kp.refl _ _) rfl⟩
theorem e_min {i j : Int} (h : EJ c rs ms ta (IsI i)) (h' : EJ c rs ms tb (IsI j)) : EJ c rs ms (tCB (fun xs H Q => ∃ i j, xs = [.int i, .int j] ∧ Q (.int (if j < i then j else i)) H) (tCons ta (tCons tb tNil))) (IsI (if j < i then j else i)) :=
  e_cb (a_cons h (a_cons h' a_nil)) fun vs H p Q q => by
    obtain ⟨v, w, rfl, h, h'⟩ := ps2 p
    exact ⟨i, j, by rw [show v = .int i from h, show w = .int j from h'], q _ H (Kp.refl _ _) rfl⟩
theorem e_intI {i : Int} (h : EJ c rs ms te (IsI i)) : EJ c rs ms (tCB (fun xs H Q => (∃ i, xs = [.int i] ∧ Q (.int i) H) ∨ ∃ k, xs = [.bl k] ∧ Q (.int (if k then 1 else 0)) H) (tCons te tNil)) (IsI i) :=
  e_cb (a_cons h a_nil) fun vs H p Q q => by
    obtain ⟨v, rfl, h⟩ := ps1 p
    exact .inl ⟨i, by rw [show v = .int i from h], q _ H (Kp.refl _ _) rfl⟩
theorem e_intB {k : Bool} (h : EJ c rs ms te (IsB k)) : EJ c rs ms (tCB (fun xs H Q => (∃ i, xs = [.int i] ∧ Q (.int i) H) ∨ ∃ k, xs = [.bl k] ∧ Q (.int (if k then 1 else 0)) H) (tCons te tNil)) (IsI (if k then 1 else 0)) :=
  e_cb (a_cons h a_nil) fun vs H p Q q => by
    obtain ⟨v, rfl, h⟩ := ps1 p
    exact .inr ⟨k, by rw [show v = .bl k from h], q _ H (Kp.refl _ _) rfl⟩
/-- a def's promise: it leaves all as it was, and answers R -/
def spP (S : List Rl → Rl → Prop) : Sp := fun vs H Q _ => ∃ Rs R, S Rs R ∧ Ps Rs vs H ∧ ∀ v H', Kp [] H H' → R.p v H' → Q v H'
theorem e_call {S : List Rl → Rl → Prop} {tr : TA} {Rs : List Rl} {E : XK} (h : AJ c rs ms tr Rs) (hs : S Rs R) : EJ c rs ms (tCall (spP S) [] E tr) R := fun σ H a Q q =>
  h σ H a _ fun vs H1 a1 k1 p1 => ⟨Rs, R, hs, by rw [List.append_nil]; exact p1, fun v H2 k2 p2 => q v H2 (a1.grow k2) (k1.trans k2.any) p2⟩
/-- the dice: three ints -/
def Dice : List V → Prop := fun xs => ∃ a b c : Int, xs = [.int a, .int b, .int c]
def spD (S : List Rl → Rl → Prop) : Sp := fun vs H Q _ => ∃ d ws Rs R, vs = .ref d :: ws ∧ S Rs R ∧ Ps Rs ws H ∧ (∃ xs, Dice xs ∧ H d = some (.lst xs)) ∧ ∀ v H', Kp [d] H H' → (∃ xs, Dice xs ∧ H' d = some (.lst xs)) → R.p v H' → Q v H'
theorem e_callD {S : List Rl → Rl → Prop} {tr : TA} {Rs : List Rl} {E : XK} {d : Addr} (hd : (d, Dice) ∈ ms) (h : AJ c rs ms tr (IsV (.ref d) :: Rs)) (hs : S Rs R) : EJ c rs ms (tCall (spD S) [] E tr) R := fun σ H a Q q =>
  h σ H a _ fun vs H1 a1 k1 p1 => by
    match vs, p1 with
    | v :: ws, p1 =>
      obtain ⟨e, p1⟩ := p1
      cases (show v = .ref d from e)
      refine ⟨d, ws, Rs, R, by rw [List.append_nil], hs, p1, a1.me _ hd, fun v H2 k2 m2 p2 => ?_⟩
      have k3 : Kp (ads ms) H1 H2 := fun x o hx n => k2 x o hx fun z => by
        have e : x = d := by simpa using z
        subst e; exact n (mem_ads hd)
      refine q v H2 (a1.step k3 (fun m hm => ?_) rfl) (k1.trans k3) p2
      by_cases e : m.1 = d
      · have em : m = (d, Dice) := by
          have h1 : (ads ms).Nodup := a1.nd
          exact ms_uniq h1 hm hd e
        subst em
        exact m2
      · obtain ⟨xs, e1, e2⟩ := a1.me m hm
        exact ⟨xs, e1, k2 _ _ e2 (by simpa using e)⟩
/-! ### tuples -/
theorem e_tup {tr : TA} {Rs : List Rl} (h : AJ c rs ms tr Rs) (hl : Rs.length ≤ 1000) : EJ c rs ms (tTup tr) (TuR K Rs) := fun σ H a Q q =>
  h σ H a _ fun vs H1 a1 k1 p1 => ⟨by rw [p1.len]; exact Nat.le_of_lt (small1000 hl), fun p hp => q _ _ (a1.grow (Kp.new hp)) (k1.trans (Kp.new hp).any) ⟨p, vs, rfl, SqT.of upd_same, p1.mono (Kp.new hp).im0⟩⟩
theorem e_tup0 : EJ c rs ms (tTup tNil) (TuI K []) := (e_tup (Rs := []) a_nil (by simp)).weak fun v H h => tr_ti.mp h
theorem e_tup1 {i : Int} (h : EJ c rs ms te (IsI i)) : EJ c rs ms (tTup (tCons te tNil)) (TuI K [i]) := (e_tup (Rs := [IsI i]) (a_cons h a_nil) (by simp)).weak fun v H h => tr_ti.mp h
theorem e_tup2 {i j : Int} (h : EJ c rs ms ta (IsI i)) (h' : EJ c rs ms tb (IsI j)) : EJ c rs ms (tTup (tCons ta (tCons tb tNil))) (TuI K [i, j]) := (e_tup (Rs := [IsI i, IsI j]) (a_cons h (a_cons h' a_nil)) (by simp)).weak fun v H h => tr_ti.mp h
theorem e_tupI {tr : TA} {ns : List Int} (h : AJ c rs ms tr (ns.map IsI)) (hl : ns.length ≤ 1000) : EJ c rs ms (tTup tr) (TuI K ns) := (e_tup h (by simpa using hl)).weak fun v H h => tr_ti.mp h
end
end K45
namespace K45
open PySem PySem.Spec PyProof.Rows L2
/-! ### fresh lists -/
def del (H : Hp) (p : Addr) : Hp := fun b => if b = p then none else H b
theorem del_same {H : Hp} {p : Addr} : del H p p = none := by unfold del; rw [if_pos rfl]
theorem del_ne {H : Hp} {p b : Addr} (h : b ≠ p) : del H p b = H b := by unfold del; rw [if_neg h]
theorem upd_del {H : Hp} {p : Addr} {o : HO} (h : H p = some o) : upd (del H p) p o = H := by
  funext b
  by_cases e : b = p
  · subst e; rw [upd_same, h]
  · rw [upd_ne e, del_ne e]
theorem del_upd {H : Hp} {p : Addr} {o : HO} (h : H p = none) : del (upd H p o) p = H := by
  funext b
  by_cases e : b = p
  · subst e; rw [del_same, h]
  · rw [del_ne e, upd_ne e]
theorem kp_del {H : Hp} {p : Addr} {o : HO} (h : H p = some o) : Kp [] (del H p) H := by
  have k := Kp.new (H := del H p) (p := p) (o := o) del_same
  rwa [upd_del h] at k
section
variable {c : Ct} {rs : List (Option Rl)} {ms : Ms} {σ : L2.St} {H H' : Hp} {K : PySem.W.Frag} {R Ra Rb Rc : Rl} {te ta tb : TE} {tt : TT}
theorem At.back {p : Addr} {xs : List V} (h : At c rs ms σ (del H p)) (e : H p = some (.lst xs)) : At c rs ms σ H := h.grow (kp_del e)
theorem At.out {p : Addr} (h : At c rs ms σ (del H p)) : p ∉ ads ms := fun hp => by
  obtain ⟨m, hm, e⟩ := of_ads hp
  obtain ⟨xs, _, e2⟩ := h.me m hm
  rw [e, del_same] at e2; cases e2
theorem At.h0 {p : Addr} (h : At c rs ms σ (del H p)) : c.H0 p = none := by
  cases e : c.H0 p with
  | none => rfl
  | some o =>
    by_cases hp : p ∈ c.d0
    · exact absurd (h.ds p hp) h.out
    · obtain ⟨o', this⟩ := (h.kp p o e hp).ex
      rw [del_same] at this; cases this
/-- a fresh list may be changed from now on -/
theorem At.add {p : Addr} {xs : List V} {φ : List V → Prop} (h : At c rs ms σ (del H p)) (e : H p = some (.lst xs)) (hφ : φ xs) : At c rs ((p, φ) :: ms) σ H := by
  have b := h.back e
  refine ⟨b.kp, fun a ha => ?_, fun a ha => List.mem_cons_of_mem _ (b.ds a ha), b.gh, b.len, b.sl, fun m hm => ?_, ?_⟩
  · rcases List.mem_cons.mp ha with z | z
    · rw [z]; exact .inr h.h0
    · exact b.fr a z
  · rcases List.mem_cons.mp hm with z | z
    · rw [z]; exact ⟨xs, hφ, e⟩
    · exact b.me m z
  · exact List.nodup_cons.mpr ⟨h.out, b.nd⟩
/-- the newest of them is forgotten -/
theorem At.drop {m : Addr × (List V → Prop)} (h : At c rs (m :: ms) σ H) (hm : m.1 ∉ c.d0) : At c rs ms σ H :=
  ⟨h.kp, fun a ha => h.fr a (List.mem_cons_of_mem _ ha), fun a ha => by
    rcases List.mem_cons.mp (h.ds a ha) with z | z
    · rw [z] at ha; exact absurd ha hm
    · exact z, h.gh, h.len, h.sl, fun m hm => h.me m (List.mem_cons_of_mem _ hm), (List.nodup_cons.mp h.nd).2⟩
def EL (c : Ct) (rs : List (Option Rl)) (ms : Ms) (te : TE) (Rs : List Rl) : Prop := ∀ σ H, At c rs ms σ H → ∀ Q : VK, (∀ p xs H', At c rs ms σ (del H' p) → Kp (ads ms) H (del H' p) → H' p = some (.lst xs) → Ps Rs xs (del H' p) → Q (.ref p) H') → te σ H Q
theorem EL.weak {Rs Rs' : List Rl} (h : EL c rs ms te Rs) (w : ∀ xs H, Ps Rs xs H → Ps Rs' xs H) : EL c rs ms te Rs' := fun σ H a Q q => h σ H a Q fun p xs H' a' k e r => q p xs H' a' k e (w _ _ r)
abbrev rTupOf (K : PySem.W.Frag) : List V → Hp → VK → Prop := fun xs H Q => ∃ p ys, xs = [.ref p] ∧ ((SqL K H p ys ∧ ∀ l, H l = none → Q (.ref l) (upd H l (.tup ys))) ∨ (SqT K H p ys ∧ Q (.ref p) H))
abbrev rListOf (K : PySem.W.Frag) : List V → Hp → VK → Prop := fun xs H Q => ∃ p ys, xs = [.ref p] ∧ (SqL K H p ys ∨ SqT K H p ys) ∧ ∀ l, H l = none → Q (.ref l) (upd H l (.lst ys))
theorem e_tupOf {Rs : List Rl} (h : EL c rs ms te Rs) : EJ c rs ms (tCB (rTupOf K) (tCons te tNil)) (TuR K Rs) := fun σ H a Q q =>
  h σ H a _ fun p xs H1 a1 k1 e1 p1 => ⟨p, xs, rfl, .inl ⟨SqL.of e1, fun l hl => by
    have k2 : Kp [] H1 (upd H1 l (.tup xs)) := Kp.new hl
    exact q _ _ ((a1.back e1).grow k2) (k1.trans ((kp_del e1).trans k2).any) ⟨l, xs, rfl, SqT.of upd_same, p1.mono ((kp_del e1).trans k2).im0⟩⟩⟩
theorem e_tupOfI {ns : List Int} (h : EL c rs ms te (ns.map IsI)) : EJ c rs ms (tCB (rTupOf K) (tCons te tNil)) (TuI K ns) := (e_tupOf h).weak fun v H h => tr_ti.mp h
theorem el_listI {ns : List Int} (h : EJ c rs ms te (TuI K ns)) : EL c rs ms (tCB (rListOf K) (tCons te tNil)) (ns.map IsI) := fun σ H a Q q =>
  h σ H a _ fun v H1 a1 k1 p1 => by
    obtain ⟨b, rfl, h⟩ := p1
    exact ⟨b, _, rfl, .inr h, fun l hl => q l _ _ (by rw [del_upd hl]; exact a1) (by rw [del_upd hl]; exact k1) upd_same (ps_ints.mpr rfl)⟩
theorem el_lst {tr : TA} {Rs : List Rl} (h : AJ c rs ms tr Rs) (hl : Rs.length ≤ 1000) : EL c rs ms (tLst tr) Rs := fun σ H a Q q =>
  h σ H a _ fun vs H1 a1 k1 p1 => ⟨by rw [p1.len]; exact Nat.le_of_lt (small1000 hl), fun p hp => q p vs _ (by rw [del_upd hp]; exact a1) (by rw [del_upd hp]; exact k1) upd_same (by rw [del_upd hp]; exact p1)⟩
theorem el_rep {x : Int} {n : Int} (h : EL c rs ms ta [IsI x]) (hb : EJ c rs ms tb (IsI n)) (h0 : 0 ≤ n) (h1 : n ≤ 1000) : EL c rs ms (tOp rRep ta tb) ((List.replicate n.toNat x).map IsI) := fun σ H a Q q =>
  h σ H a _ fun p xs H1 a1 k1 e1 p1 => hb σ H1 (a1.back e1) _ fun y H2 a2 k2 p2 => by
    cases (show y = .int n from p2)
    have e2 : H2 p = some (.lst xs) := k2 p _ e1 a1.out
    have ex : xs = [V.int x] := ps_ints (ns := [x]).mp p1
    refine ⟨p, n, xs, rfl, rfl, e2, by omega, by omega, ?_, fun l hl => ?_⟩
    · rw [ex]
      show 1 * n.toNat ≤ sizeLine
      exact Nat.le_of_lt (small1000 (by omega))
    · refine q l _ _ (by rw [del_upd hl]; exact a2) (by rw [del_upd hl]; exact k1.trans ((kp_del e1).any.trans k2)) upd_same ?_
      rw [ps_ints, ex, List.map_replicate]
      generalize n.toNat = k
      induction k with
      | zero => rfl
      | succ k ih => rw [List.replicate_succ, List.flatten_cons, ih, List.replicate_succ]; rfl
/-! ### places -/
theorem at_of {xs : List V} {i : Int} {v : V} (h0 : 0 ≤ i) (h : xs[i.toNat]? = some v) : atI xs i = some v := by
  have := atI_nat (j := i.toNat) h
  rwa [Int.toNat_of_nonneg h0] at this
theorem e_ixI {ns : List Int} {i x : Int} (h : EJ c rs ms ta (TuI K ns)) (hi : EJ c rs ms tb (IsI i)) (h0 : 0 ≤ i) (hx : ns[i.toNat]? = some x) : EJ c rs ms (tOp (rIxT K) ta tb) (IsI x) :=
  e_op h hi fun a b H ⟨p, ha, hs⟩ hb Q q => by
    subst ha
    cases (show b = .int i from hb)
    exact ⟨p, _, i, .int x, rfl, rfl, hs, at_of h0 (by rw [List.getElem?_map, hx]; rfl), q _ H (Kp.refl _ _) rfl⟩
theorem e_ixR {Rs : List Rl} {i : Int} (h : EJ c rs ms ta (TuR K Rs)) (hi : EJ c rs ms tb (IsI i)) (h0 : 0 ≤ i) (hx : Rs[i.toNat]? = some R) : EJ c rs ms (tOp (rIxT K) ta tb) R :=
  e_op h hi fun a b H ⟨p, xs, ha, hs, hp⟩ hb Q q => by
    subst ha
    cases (show b = .int i from hb)
    obtain ⟨v, e1, e2⟩ := hp.get hx
    exact ⟨p, _, i, v, rfl, rfl, hs, at_of h0 e1, q _ H (Kp.refl _ _) e2⟩
/-- a list at a known place -/
theorem e_ixL {p : Addr} {φ : List V → Prop} {i : Int} {χ : V → Prop} (hm : (p, φ) ∈ ms) (h : EJ c rs ms ta (IsV (.ref p))) (hi : EJ c rs ms tb (IsI i)) (h0 : 0 ≤ i) (hx : ∀ xs, φ xs → ∃ v, xs[i.toNat]? = some v ∧ ∀ H, R.p v H) :
    EJ c rs ms (tOp (rIxL K) ta tb) R := fun σ H a Q q =>
  h σ H a _ fun x H1 a1 k1 p1 => hi σ H1 a1 _ fun y H2 a2 k2 p2 => by
    cases (show x = .ref p from p1)
    cases (show y = .int i from p2)
    obtain ⟨xs, e1, e2⟩ := a2.me _ hm
    obtain ⟨v, e3, e4⟩ := hx xs e1
    exact ⟨p, xs, i, v, rfl, rfl, SqL.of e2, at_of h0 e3, q _ H2 a2 (k1.trans k2) (e4 _)⟩
theorem e_lenL {p : Addr} {φ : List V → Prop} {n : Nat} (hm : (p, φ) ∈ ms) (h : EJ c rs ms te (IsV (.ref p))) (hx : ∀ xs, φ xs → xs.length = n) : EJ c rs ms (tCB (rLen K) (tCons te tNil)) (IsI (n : Int)) := fun σ H a Q q =>
  h σ H a _ fun x H1 a1 k1 p1 => by
    cases (show x = .ref p from p1)
    obtain ⟨xs, e1, e2⟩ := a1.me _ hm
    exact ⟨p, xs, rfl, .inl (SqL.of e2), q _ H1 a1 k1 (by show V.int _ = V.int _; rw [hx xs e1])⟩
/-! ### slices of a tuple: t[:-1], t[1:] -/
theorem e_slHead {ns : List Int} (h : EJ c rs ms te (TuI K ns)) (hi : EJ c rs ms tb (IsI (-1))) (hl : 1 ≤ ns.length) : EJ c rs ms (tSl (rSlT K) te tNoPart (tPart tb)) (TuI K (ns.take (ns.length - 1))) := fun σ H a Q q =>
  h σ H a _ fun x H1 a1 k1 p1 => hi σ H1 a1 _ fun y H2 a2 k2 p2 => by
    obtain ⟨b, rfl, hs⟩ := (TuI K ns).mono (k2.im a1.me) p1
    cases (show y = .int (-1) from p2)
    have e1 : HT.sIx (ns.map V.int).length 0 none = 0 := rfl
    have e2 : HT.sIx (ns.map V.int).length (ns.map V.int).length (some (-1)) = ns.length - 1 := by
      show (if (-1 : Int) < 0 then ((-1 : Int) + (((ns.map V.int).length : Nat) : Int)).toNat else min (-1 : Int).toNat (ns.map V.int).length) = _
      rw [if_pos (by omega), List.length_map]; omega
    refine ⟨-1, rfl, b, _, rfl, hs, ?_, fun p hp => q _ _ (a2.grow (Kp.new hp)) ((k1.trans k2).trans (Kp.new hp).any) ⟨p, rfl, SqT.of ?_⟩⟩
    · rw [e1, e2, List.length_map]; omega
    · rw [upd_same]
      unfold cutV
      rw [e1, e2, List.map_take]; rfl
theorem e_slTail {ns : List Int} (h : EJ c rs ms te (TuI K ns)) (hi : EJ c rs ms tb (IsI 1)) (hl : 1 ≤ ns.length) : EJ c rs ms (tSl (rSlT K) te (tPart tb) tNoPart) (TuI K (ns.drop 1)) := fun σ H a Q q =>
  h σ H a _ fun x H1 a1 k1 p1 => hi σ H1 a1 _ fun y H2 a2 k2 p2 => by
    obtain ⟨b, rfl, hs⟩ := (TuI K ns).mono (k2.im a1.me) p1
    cases (show y = .int 1 from p2)
    have e1 : HT.sIx (ns.map V.int).length (ns.map V.int).length none = ns.length := by
      show (ns.map V.int).length = ns.length
      rw [List.length_map]
    have e2 : HT.sIx (ns.map V.int).length 0 (some 1) = 1 := by
      have := HT.sIx_nat (ns.map V.int).length 0 1
      rw [List.length_map] at this ⊢
      rw [show ((1 : Nat) : Int) = 1 from rfl] at this
      rw [this]; omega
    refine ⟨1, rfl, b, _, rfl, hs, ?_, fun p hp => q _ _ (a2.grow (Kp.new hp)) ((k1.trans k2).trans (Kp.new hp).any) ⟨p, rfl, SqT.of ?_⟩⟩
    · rw [e2]; omega
    · rw [upd_same]
      unfold cutV
      rw [e1, e2, ← List.map_drop, List.take_of_length_le (by simp)]
/-! ### what is walked -/
structure IW (J : It) (n : Nat) (Y : Nat → Rl) (g : Gh) (gm : Ms) : Prop where
  go : ∀ i H, i < n → g.p H → Mems gm H → J.go i H
  stop : ∀ H, g.p H → Mems gm H → J.stop n H
  yld : ∀ i H x H', i < n → g.p H → Mems gm H → J.yld i H x H' → Kp [] H H' ∧ (Y i).p x H'
/-- iter over: n turns, what they give; ex: lists that were made for it -/
def IJ (c : Ct) (rs : List (Option Rl)) (ms : Ms) (wi : L2.TI) (n : Nat) (Y : Nat → Rl) (gm : Ms) : Prop := ∀ σ H, At c rs ms σ H → ∀ T : It → Hp → Prop, (∀ J H1 g, At c rs ms σ H1 → Kp (ads ms) H H1 → g.p H1 → IW J n Y g gm → T J H1) → wi σ H T
def gT : Gh := ⟨fun _ => True, fun _ h => h⟩
def gTup (K : PySem.W.Frag) (a : Addr) (xs : List V) : Gh := ⟨fun H => SqT K H a xs, fun i h => sqt_im i h⟩
/-- what a tuple's items are -/
def gTupR (K : PySem.W.Frag) (a : Addr) (xs : List V) (Rs : List Rl) : Gh := ⟨fun H => SqT K H a xs ∧ Ps Rs xs H, fun i h => ⟨sqt_im i h.1, h.2.mono i⟩⟩
theorem ij_rng {n : Int} {tr : TA} (h : AJ c rs ms tr [IsI n]) (hn : -(2 ^ 62) ≤ n ∧ n < 2 ^ 62) : IJ c rs ms (iRng1 tr) n.toNat (fun i => IsI (i : Int)) [] := fun σ H a T t =>
  h σ H a _ fun vs H1 a1 k1 p1 => by
    obtain ⟨v, rfl, e⟩ := ps1 p1
    cases (show v = .int n from e)
    refine ⟨n, rfl, hn.1, hn.2, t _ H1 gT a1 k1 trivial ⟨fun i H hi _ _ => hi, fun H _ _ => Nat.le_refl _, fun i H x H' hi _ _ y => ?_⟩⟩
    obtain ⟨e1, e2⟩ := y
    subst e1 e2
    refine ⟨Kp.refl _ _, ?_⟩
    show V.int (0 + (i : Int)) = V.int (i : Int)
    rw [Int.zero_add]
theorem ij_tupR {Rs : List Rl} (h : EJ c rs ms te (TuR K Rs)) : IJ c rs ms (iTup K te) Rs.length (fun i => (Rs[i]?).getD (IsV .non)) [] := fun σ H a T t =>
  h σ H a _ fun v H1 a1 k1 p1 => by
    obtain ⟨b, xs, rfl, hs, hp⟩ := p1
    have hl := hp.len
    refine ⟨b, rfl, ⟨_, hs⟩, t _ H1 (gTupR K b xs Rs) a1 k1 ⟨hs, hp⟩ ⟨fun i H hi g _ => ⟨xs, xs[i]'(by omega), g.1, by simp [hl, hi]⟩, fun H g _ => ⟨xs, g.1, by omega⟩, fun i H x H' hi g _ y => ?_⟩⟩
    obtain ⟨e1, e2⟩ := y
    subst e1
    refine ⟨Kp.refl _ _, ?_⟩
    obtain ⟨w, e3, e4⟩ := g.2.get (i := i) (r := Rs[i]) (by simp [hi])
    have e5 := e2 xs g.1
    rw [e3] at e5
    have e6 : w = x := Option.some.inj e5
    rw [← e6]
    show ((Rs[i]?).getD (IsV .non)).p w H'
    simp [hi]; exact e4
theorem ij_tupI {ns : List Int} (h : EJ c rs ms te (TuI K ns)) : IJ c rs ms (iTup K te) ns.length (fun i => IsI (ns.getD i 0)) [] := fun σ H a T t =>
  h σ H a _ fun v H1 a1 k1 p1 => by
    obtain ⟨b, rfl, hs⟩ := p1
    refine ⟨b, rfl, ⟨_, hs⟩, t _ H1 (gTup K b (ns.map V.int)) a1 k1 hs ⟨fun i H hi g _ => ⟨_, .int ns[i], g, by simp [hi]⟩, fun H g _ => ⟨_, g, by simp⟩, fun i H x H' hi g _ y => ?_⟩⟩
    obtain ⟨e1, e2⟩ := y
    subst e1
    refine ⟨Kp.refl _ _, ?_⟩
    have e3 := e2 _ g
    rw [List.getElem?_map, List.getElem?_eq_getElem hi] at e3
    show x = V.int (ns.getD i 0)
    simp [hi]
    exact (Option.some.inj e3).symm
theorem ij_zipT {xs ys : List Int} {tr : TA} {n : Nat} (h : AJ c rs ms tr [TuI K xs, TuI K ys]) (hn : n = min xs.length ys.length) : IJ c rs ms (RZ.iZipA K tr) n (fun i => TuR K [IsI (xs.getD i 0), IsI (ys.getD i 0)]) [] := fun σ H a T t =>
  h σ H a _ fun vs H1 a1 k1 p1 => by
    obtain ⟨v, w, rfl, ⟨b, rfl, hb⟩, ⟨d, rfl, hd⟩⟩ := ps2 p1
    refine ⟨b, d, _, _, rfl, .inr ⟨hb, hd, t _ H1 ⟨fun H => SqT K H b (xs.map V.int) ∧ SqT K H d (ys.map V.int), fun i h => ⟨sqt_im i h.1, sqt_im i h.2⟩⟩ a1 k1 ⟨hb, hd⟩ ⟨fun i H hi g _ => ?_, fun H g _ => ?_, fun i H x H' hi g _ y => ?_⟩⟩⟩
    · have h1 : i < xs.length := by omega
      have h2 : i < ys.length := by omega
      exact ⟨_, _, .int xs[i], .int ys[i], g.1, g.2, by simp [h1], by simp [h2]⟩
    · refine ⟨_, _, g.1, g.2, ?_⟩
      simp; omega
    · obtain ⟨p, x1, x2, rfl, hp, rfl, f1, f2⟩ := y
      have h1 : i < xs.length := by omega
      have h2 : i < ys.length := by omega
      have e1 := f1 _ g.1
      have e2 := f2 _ g.2
      rw [List.getElem?_map, List.getElem?_eq_getElem h1] at e1
      rw [List.getElem?_map, List.getElem?_eq_getElem h2] at e2
      refine ⟨Kp.new hp, p, [x1, x2], rfl, SqT.of upd_same, ?_, ?_, trivial⟩
      · show x1 = V.int (xs.getD i 0)
        simp [h1]; exact (Option.some.inj e1).symm
      · show x2 = V.int (ys.getD i 0)
        simp [h2]; exact (Option.some.inj e2).symm
/-! ### targets -/
def GJ (c : Ct) (rs : List (Option Rl)) (ms : Ms) (g : TG) (R : Rl) (is : List Nat) (rs' : List (Option Rl)) : Prop := ∀ v σ H, At c rs ms σ H → R.p v H → ∀ Q : L2.St → Hp → Prop, (∀ σ', At c rs' ms σ' H → (∀ vs : List Nat, (∀ i ∈ is, i ∈ vs) → wipe σ' vs = wipe σ vs) → Q σ' H) → g v σ H Q
theorem wipe_set {i : Nat} {v : Option V} : ∀ {vs : List Nat} {σ : L2.St}, i ∈ vs → wipe (σ.set i v) vs = wipe σ vs
  | [], _, h => by cases h
  | j :: vs, σ, h => by
    show (wipe (σ.set i v) vs).set j none = (wipe σ vs).set j none
    by_cases e : i ∈ vs
    · rw [wipe_set e]
    · have e2 : i = j := by rcases List.mem_cons.mp h with z | z; · exact z
                            exact absurd z e
      subst e2
      have : ∀ (us : List Nat) (τ : L2.St), i ∉ us → wipe (τ.set i v) us = (wipe τ us).set i v := by
        intro us
        induction us with
        | nil => intro τ _; rfl
        | cons u us ih =>
          intro τ hu
          show (wipe (τ.set i v) us).set u none = ((wipe τ us).set u none).set i v
          rw [ih τ (fun z => hu (List.mem_cons_of_mem _ z)), List.set_comm _ _ (fun z => hu (by rw [z]; exact List.mem_cons_self))]
      rw [this vs σ e, List.set_set]
theorem wipe_wipe {vs : List Nat} {σ : L2.St} : wipe (wipe σ vs) vs = wipe σ vs := by
  have : ∀ (us : List Nat), (∀ i ∈ us, i ∈ vs) → wipe (wipe σ us) vs = wipe σ vs := by
    intro us
    induction us with
    | nil => intro _; rfl
    | cons u us ih =>
      intro h
      show wipe ((wipe σ us).set u none) vs = wipe σ vs
      rw [wipe_set (h u List.mem_cons_self)]
      exact ih fun i hi => h i (List.mem_cons_of_mem _ hi)
  exact this vs fun i hi => hi
theorem g_name {i : Nat} : GJ c rs ms (gName i) R [i] (rs.set i (some R)) := fun v σ H a r Q q => q _ (a.set r) fun vs h => wipe_set (h i List.mem_cons_self)
theorem g_pair {i j : Nat} {S : Rl} : GJ c rs ms (L2.gTup K 2 (gCons (gName i) (gCons (gName j) gNil))) (TuR K [R, S]) [i, j] ((rs.set i (some R)).set j (some S)) := fun v σ H a r Q q => by
  obtain ⟨p, xs, rfl, hs, hp⟩ := r
  obtain ⟨x, y, rfl, h1, h2⟩ := ps2 hp
  refine ⟨p, _, rfl, hs, rfl, x, _, rfl, y, _, rfl, rfl, q _ ((a.set h1).set h2) fun vs h => ?_⟩
  rw [wipe_set (h j (by simp)), wipe_set (h i (by simp))]
def wipeR (rs : List (Option Rl)) : List Nat → List (Option Rl)
  | [] => rs
  | v :: vs => (wipeR rs vs).set v none
theorem At.wipe (h : At c rs ms σ H) : ∀ vs : List Nat, At c (wipeR rs vs) ms (L2.wipe σ vs) H
  | [] => h
  | v :: vs => by
    have a := At.wipe h vs
    refine ⟨a.kp, a.fr, a.ds, a.gh, by simpa [wipeR, L2.wipe] using a.len, fun i r hr => ?_, a.me, a.nd⟩
    have hr' : ((wipeR rs vs).set v none)[i]? = some (some r) := hr
    by_cases e : v = i
    · subst e
      by_cases hl : v < (wipeR rs vs).length
      · rw [List.getElem?_set_self hl] at hr'; cases hr'
      · rw [List.getElem?_eq_none (by simpa using hl)] at hr'; cases hr'
    · rw [List.getElem?_set_ne e] at hr'
      obtain ⟨w, e1, e2⟩ := a.sl i r hr'
      refine ⟨w, ?_, e2⟩
      show ((L2.wipe σ vs).set v none)[i]? = _
      rw [List.getElem?_set_ne e]; exact e1
def Ct.add (c : Ct) (g : Gh) : Ct := { c with gs := g :: c.gs }
theorem At.ghost {g : Gh} (h : At c rs ms σ H) (hg : g.p H) : At (c.add g) rs ms σ H :=
  ⟨h.kp, h.fr, h.ds, fun x hx => by
    rcases List.mem_cons.mp hx with z | z
    · rw [z]; exact hg
    · exact h.gh x z, h.len, h.sl, h.me, h.nd⟩
theorem At.unghost {g : Gh} (h : At (c.add g) rs ms σ H) : At c rs ms σ H := ⟨h.kp, h.fr, h.ds, fun x hx => h.gh x (List.mem_cons_of_mem _ hx), h.len, h.sl, h.me, h.nd⟩
theorem At.the {g : Gh} (h : At (c.add g) rs ms σ H) : g.p H := h.gh g List.mem_cons_self
theorem Mems.sub {gm : Ms} (h : Mems ms H) (hs : ∀ m ∈ gm, m ∈ ms) : Mems gm H := fun m hm => h m (hs m hm)
/-! ### comprehensions -/
theorem ps_snoc {R : Rl} {v : V} {H : Hp} : ∀ {Rs : List Rl} {vs : List V}, Ps Rs vs H → R.p v H → Ps (Rs ++ [R]) (vs ++ [v]) H
  | [], [], _, h => ⟨h, trivial⟩
  | r :: rs, w :: vs, h1, h2 => ⟨h1.1, ps_snoc h1.2 h2⟩
  | [], _ :: _, h, _ => h.elim
  | _ :: _, [], h, _ => h.elim
/-- [te for g in wi]: no test -/
theorem el_lc {wi : L2.TI} {g : TG} {vs is : List Nat} {n : Nat} {Y F : Nat → Rl} {gm : Ms} {rs' : Nat → List (Option Rl)} (hi : IJ c rs ms wi n Y gm) (hgm : ∀ m ∈ gm, m ∈ ms) (his : ∀ i ∈ is, i ∈ vs) (hn : n ≤ 1000)
    (hg : ∀ i, i < n → ∀ (c : Ct) (ms : Ms), GJ c (wipeR rs vs) ms g (Y i) is (rs' i))
    (he : ∀ i, i < n → ∀ (x : Gh) (D : Addr) (acc : List V), EJ (c.add x) (rs' i) ((D, (· = acc)) :: ms) te (F i)) : EL c rs ms (tLc wi g tYes te vs) ((List.range n).map F) := fun σ H a Q q =>
  hi σ H a _ fun J H1 gg a1 k1 hgg w => fun D hD => by
    -- the list D, the ghosts
    let Pv : Nat → Hp → Prop := fun i H' => ∃ acc, At (c.add gg) rs ((D, (· = acc)) :: ms) σ H' ∧ Kp (ads ms) H1 (del H' D) ∧ Ps ((List.range i).map F) acc (del H' D) ∧ acc.length = i ∧ At c rs ms σ (del H' D)
    refine ⟨fun i m H' => m = n - i ∧ i ≤ n ∧ Pv i H', ⟨n, by simp, Nat.zero_le _, [], ?_, ?_, trivial, rfl, ?_⟩, ?_⟩
    · exact At.add (H := upd H1 D (.lst [])) (p := D) (xs := []) (φ := (· = [])) (by rw [del_upd hD]; exact a1.ghost hgg) upd_same rfl
    · rw [del_upd hD]; exact Kp.refl _ _
    · rw [del_upd hD]; exact a1
    rintro i m H' ⟨rfl, hin, acc, b, kk, pp, hl, bd⟩
    have mm : Mems gm H' := b.me.sub fun m hm => List.mem_cons_of_mem _ (hgm m hm)
    obtain ⟨acc', e1, eD⟩ := b.me (D, (· = acc)) List.mem_cons_self
    cases (show acc' = acc from e1)
    by_cases hlt : i < n
    · refine .inr ⟨w.go i H' hlt b.the mm, fun H2 => Pv (i + 1) H2, fun H2 p2 => ⟨n - (i + 1), by omega, rfl, hlt, p2⟩, fun x H2 hy => ?_⟩
      obtain ⟨k2, y2⟩ := w.yld i H' x H2 hlt b.the mm hy
      have b2 := b.grow k2
      refine hg i hlt _ _ x _ H2 (b2.wipe vs) y2 _ fun σ2 b3 hw => ⟨(hw vs his).trans wipe_wipe, ?_⟩
      refine he i hlt gg D acc σ2 H2 b3 _ fun y H4 b4 k4 p4 => ?_
      obtain ⟨acc4, e4, eD4⟩ := b4.me (D, (· = acc)) List.mem_cons_self
      cases (show acc4 = acc from e4)
      have kD : ∀ a o, del H' D a = some o → a ∉ ads ms → St (del (upd H4 D (.lst (acc ++ [y]))) D) a o := fun a o e n => by
        have ne : a ≠ D := fun z => by rw [z, del_same] at e; cases e
        rw [del_ne ne] at e
        refine (k2 a o e (by simp)).bind fun o2 f2 _ => (k4 a o2 f2 fun z => ?_).bind fun o3 f3 _ => St.of (by rw [del_ne ne, upd_ne ne]; exact f3)
        rcases List.mem_cons.mp z with z | z
        · exact ne z
        · exact n z
      have mD : Mems ms (del (upd H4 D (.lst (acc ++ [y]))) D) := fun m hm => by
        obtain ⟨xs, f1, f2⟩ := b4.me m (List.mem_cons_of_mem _ hm)
        have ne : m.1 ≠ D := fun z => by
          have q := mem_ads hm
          rw [z] at q
          exact (List.nodup_cons.mp b4.nd).1 q
        exact ⟨xs, f1, by rw [del_ne ne, upd_ne ne]; exact f2⟩
      have iD : Im H4 (del (upd H4 D (.lst (acc ++ [y]))) D) := fun a o e n => by
        have ne : a ≠ D := fun z => by rw [z, eD4] at e; exact n _ (Option.some.inj e).symm
        exact St.of (by rw [del_ne ne, upd_ne ne]; exact e)
      refine ⟨acc, eD4, small1000 (by omega), acc ++ [y], ?_, fun a o e n => (kk a o e n).bind fun o' e' _ => kD a o' e' n, ?_, by simp [hl], ?_⟩
      · refine b2.step (fun a o e n => ?_) (fun m hm => ?_) rfl
        · have ne : a ≠ D := fun z => n (by rw [z]; exact List.mem_cons_self)
          exact (k4 a o e n).bind fun o' e' _ => St.of (by rw [upd_ne ne]; exact e')
        · rcases List.mem_cons.mp hm with z | z
          · rw [z]; exact ⟨acc ++ [y], rfl, upd_same⟩
          · obtain ⟨xs, f1, f2⟩ := mD m z
            have ne : m.1 ≠ D := fun w => by rw [w, del_same] at f2; cases f2
            exact ⟨xs, f1, by rw [del_ne ne] at f2; exact f2⟩
      · rw [List.range_succ, List.map_append]
        refine ps_snoc (pp.mono (Kp.im (ms := ms) kD bd.me)) ((F i).mono iD p4)
      · exact bd.step (ms' := ms) kD mD rfl
    · have e : i = n := by omega
      subst e
      refine .inl ⟨w.stop H' b.the mm, q D acc H' bd (k1.trans kk) eD pp⟩
end
end K45
namespace K45
open PySem PySem.Spec PyProof.Rows L2
section
variable {c : Ct} {rs : List (Option Rl)} {ms : Ms} {σ : L2.St} {H H' : Hp} {K : PySem.W.Frag} {R Ra Rb Rc : Rl} {te ta tb : TE} {tt : TT} {nx : L2.St → Hp → Prop} {rt : VK} {bk ct : L2.St → Hp → Prop} {t u : TS} {i : Nat}
/-! ### statements -/
theorem w_seq (h : t ⟨u ⟨nx, rt, bk, ct⟩, rt, bk, ct⟩ σ H) : tSeq t u ⟨nx, rt, bk, ct⟩ σ H := h
theorem w_next (h : nx σ H) : tNext ⟨nx, rt, bk, ct⟩ σ H := h
theorem w_set (a : At c rs ms σ H) (h : EJ c rs ms te R) (k : ∀ σ' H', At c (rs.set i (some R)) ms σ' H' → nx σ' H') : tAsg te (gName i) ⟨nx, rt, bk, ct⟩ σ H :=
  h σ H a _ fun v H1 a1 _ p => k _ _ (a1.set p)
/-- the value is one of those; it is named -/
theorem w_setA {α : Type} {φ : α → Prop} {F : α → Rl} (a : At c rs ms σ H) (h : EJ c rs ms te (AnyR φ F)) (k : ∀ x, φ x → ∀ σ' H', At c (rs.set i (some (F x))) ms σ' H' → nx σ' H') : tAsg te (gName i) ⟨nx, rt, bk, ct⟩ σ H :=
  h σ H a _ fun v H1 a1 _ ⟨x, e, p⟩ => k x e _ _ (a1.set p)
theorem At.setV (h : At c rs ms σ H) {v : V} : At c (rs.set i (some (IsV v))) ms (σ.set i (some v)) H := h.set rfl
/-- a new list, to be changed -/
theorem w_setL {ns : List Int} (a : At c rs ms σ H) (h : EL c rs ms te (ns.map IsI)) (k : ∀ p σ' H', At c (rs.set i (some (IsV (.ref p)))) ((p, (· = ns.map V.int)) :: ms) σ' H' → nx σ' H') : tAsg te (gName i) ⟨nx, rt, bk, ct⟩ σ H :=
  h σ H a _ fun p xs H1 a1 _ e pp => k p _ _ ((a1.add e (φ := (· = ns.map V.int)) (ps_ints.mp pp)).setV)
theorem w_ret (a : At c rs ms σ H) (h : EJ c rs ms te R) (k : ∀ v H', At c rs ms σ H' → R.p v H' → rt v H') : tRet te ⟨nx, rt, bk, ct⟩ σ H := h σ H a _ fun v H1 a1 _ p => k v H1 a1 p
theorem w_drop (a : At c rs ms σ H) (h : EJ c rs ms te R) (k : ∀ H', At c rs ms σ H' → nx σ H') : tDrop te ⟨nx, rt, bk, ct⟩ σ H := h σ H a _ fun v H1 a1 _ p => k H1 a1
theorem w_if {b : Bool} (a : At c rs ms σ H) (h : TJ c rs ms tt b) (h1 : b = true → ∀ H', At c rs ms σ H' → t ⟨nx, rt, bk, ct⟩ σ H') (h2 : b = false → ∀ H', At c rs ms σ H' → u ⟨nx, rt, bk, ct⟩ σ H') : tIfS tt t u ⟨nx, rt, bk, ct⟩ σ H :=
  h σ H a _ fun H1 a1 _ => by
    cases b with
    | true => exact h1 rfl H1 a1
    | false => exact h2 rfl H1 a1
/-- x op= e -/
theorem w_aug {f : Int → Int → Int} {x y : Int} (a : At c rs ms σ H) (hx : rs[i]? = some (some (IsI x))) (h : EJ c rs ms te (IsI y)) (k : ∀ σ' H', At c (rs.set i (some (IsI (f x y)))) ms σ' H' → nx σ' H') : tAug i te (ipI f) ⟨nx, rt, bk, ct⟩ σ H := by
  obtain ⟨v, e1, e2⟩ := a.sl i _ hx
  cases (show v = .int x from e2)
  refine ⟨_, e1, h σ H a _ fun w H1 a1 _ p => ?_⟩
  cases (show w = .int y from p)
  exact ⟨x, y, rfl, rfl, k _ _ (a1.set rfl)⟩
/-- a list's content is changed -/
theorem At.store {p : Addr} {φ ψ : List V → Prop} {xs : List V} {ms1 ms2 : Ms} (h : At c rs (ms1 ++ (p, φ) :: ms2) σ H) (hψ : ψ xs) : At c rs (ms1 ++ (p, ψ) :: ms2) σ (upd H p (.lst xs)) := by
  have hp : p ∈ ads (ms1 ++ (p, φ) :: ms2) := mem_ads (m := (p, φ)) (by simp)
  refine h.step (fun a o e n => St.of (by rw [upd_ne (fun z => n (by rw [z]; exact hp))]; exact e)) (fun m hm => ?_) (by simp [ads])
  have nd := h.nd
  have hm' : m ∈ ms1 ∨ m = (p, ψ) ∨ m ∈ ms2 := by simpa using hm
  rcases hm' with z | z | z
  · have ne : m.1 ≠ p := fun w => by
      have e := ms_uniq nd (x := m) (y := (p, φ)) (by simp [z]) (by simp) w
      subst e
      have q : (ads ms1 ++ p :: ads ms2).Nodup := by simpa [ads] using nd
      have r := (List.nodup_append.mp q).2.2
      exact r p (mem_ads z) p List.mem_cons_self rfl
    obtain ⟨ys, f1, f2⟩ := h.me m (by simp [z])
    exact ⟨ys, f1, by rw [upd_ne ne]; exact f2⟩
  · subst z; exact ⟨xs, hψ, upd_same⟩
  · have ne : m.1 ≠ p := fun w => by
      have q : (ads ms1 ++ p :: ads ms2).Nodup := by simpa [ads] using nd
      have r := (List.nodup_cons.mp (List.nodup_append.mp q).2.1).1
      exact r (by rw [← w]; exact mem_ads z)
    obtain ⟨ys, f1, f2⟩ := h.me m (by simp [z])
    exact ⟨ys, f1, by rw [upd_ne ne]; exact f2⟩
theorem ixN_of {n : Nat} {i : Int} (h0 : 0 ≤ i) (h : i < n) : ixN n i = some i.toNat := by
  unfold ixN
  rw [if_pos h0, if_pos h]
/-- xs[i] = e -/
theorem w_sub {p : Addr} {φ : List V → Prop} {ψ : List V → Prop} {j : Int} {ms1 ms2 : Ms} {ti : TE} (a : At c rs (ms1 ++ (p, φ) :: ms2) σ H) (h : EJ c rs (ms1 ++ (p, φ) :: ms2) te R) (ho : EJ c rs (ms1 ++ (p, φ) :: ms2) ta (IsV (.ref p))) (hi : EJ c rs (ms1 ++ (p, φ) :: ms2) ti (IsI j))
    (h0 : 0 ≤ j) (hx : ∀ xs v H, φ xs → R.p v H → j < xs.length ∧ ψ (xs.set j.toNat v)) (k : ∀ H', At c rs (ms1 ++ (p, ψ) :: ms2) σ H' → nx σ H') : tAsg te (gSub ta ti rSetL) ⟨nx, rt, bk, ct⟩ σ H :=
  h σ H a _ fun v H1 a1 _ p1 => ho σ H1 a1 _ fun o H2 a2 k2 p2 => hi σ H2 a2 _ fun y H3 a3 k3 p3 => by
    cases (show o = .ref p from p2)
    cases (show y = .int j from p3)
    obtain ⟨xs, e1, e2⟩ := a3.me (p, φ) (by simp)
    obtain ⟨q1, q2⟩ := hx xs v H1 e1 p1
    exact ⟨p, xs, j, j.toNat, rfl, rfl, e2, ixN_of h0 q1, k _ (a3.store q2)⟩
/-- a for -/
theorem w_forX {ι : Type} {wi : L2.TI} {g : TG} {tb : TS} {n : Nat} {Y : Nat → Rl} {gm : Ms} {is : List Nat} (a : At c rs ms σ H) (hi : IJ c rs ms wi n Y gm) (φ : Nat → ι → Prop) (Pr Pr' : Nat → ι → List (Option Rl)) (Pm : Nat → ι → Ms)
    (h0 : ∀ (c : Ct) σ H, At c rs ms σ H → ∃ x, φ 0 x ∧ At c (Pr 0 x) (Pm 0 x) σ H) (hgm : ∀ i x, ∀ m ∈ gm, m ∈ Pm i x) (hg : ∀ i x, i < n → φ i x → ∀ c, GJ c (Pr i x) (Pm i x) g (Y i) is (Pr' i x))
    (hs : ∀ i x, i < n → φ i x → ∀ gg nx' bk' ct' σ H, At (c.add gg) (Pr' i x) (Pm i x) σ H → (∀ y σ' H', φ (i + 1) y → At (c.add gg) (Pr (i + 1) y) (Pm (i + 1) y) σ' H' → nx' σ' H') → tb ⟨nx', rt, bk', ct'⟩ σ H)
    (hd : ∀ x σ H, φ n x → At c (Pr n x) (Pm n x) σ H → nx σ H) : tFor wi g tb ⟨nx, rt, bk, ct⟩ σ H :=
  hi σ H a _ fun J H1 gg a1 _ hgg w => by
    obtain ⟨x0, f0, b0⟩ := h0 _ _ _ (a1.ghost hgg)
    refine ⟨fun i m σ' H' => m = n - i ∧ i ≤ n ∧ ∃ x, φ i x ∧ At (c.add gg) (Pr i x) (Pm i x) σ' H', ⟨n, by simp, Nat.zero_le _, x0, f0, b0⟩, ?_⟩
    rintro i m σ' H' ⟨rfl, hin, x, fx, b⟩
    have mm : Mems gm H' := b.me.sub (hgm i x)
    by_cases hlt : i < n
    · refine .inr ⟨w.go i H' hlt b.the mm, fun σ2 H2 => ∃ y, φ (i + 1) y ∧ At (c.add gg) (Pr (i + 1) y) (Pm (i + 1) y) σ2 H2, fun σ2 H2 ⟨y, f2, b2⟩ => ⟨n - (i + 1), by omega, rfl, hlt, y, f2, b2⟩, fun v H2 hy => ?_⟩
      obtain ⟨k2, y2⟩ := w.yld i H' v H2 hlt b.the mm hy
      exact hg i x hlt fx _ v σ' H2 (b.grow k2) y2 _ fun σ2 b3 _ => hs i x hlt fx gg _ _ _ σ2 H2 b3 fun y σ3 H3 f3 b4 => ⟨y, f3, b4⟩
    · have e : i = n := by omega
      subst e
      exact .inl ⟨w.stop H' b.the mm, hd x σ' H' fx b.unghost⟩
/-- a for whose invariant is told by the turn -/
theorem w_for {wi : L2.TI} {g : TG} {tb : TS} {n : Nat} {Y : Nat → Rl} {gm : Ms} {is : List Nat} (a : At c rs ms σ H) (hi : IJ c rs ms wi n Y gm) (Pr Pr' : Nat → List (Option Rl)) (Pm : Nat → Ms)
    (h0 : ∀ (c : Ct) σ H, At c rs ms σ H → At c (Pr 0) (Pm 0) σ H) (hgm : ∀ i, ∀ m ∈ gm, m ∈ Pm i) (hg : ∀ i, i < n → ∀ c, GJ c (Pr i) (Pm i) g (Y i) is (Pr' i))
    (hs : ∀ i, i < n → ∀ gg nx' bk' ct' σ H, At (c.add gg) (Pr' i) (Pm i) σ H → (∀ σ' H', At (c.add gg) (Pr (i + 1)) (Pm (i + 1)) σ' H' → nx' σ' H') → tb ⟨nx', rt, bk', ct'⟩ σ H)
    (hd : ∀ σ H, At c (Pr n) (Pm n) σ H → nx σ H) : tFor wi g tb ⟨nx, rt, bk, ct⟩ σ H :=
  w_forX (ι := Unit) a hi (fun _ _ => True) (fun i _ => Pr i) (fun i _ => Pr' i) (fun i _ => Pm i) (fun c σ H b => ⟨(), trivial, h0 c σ H b⟩) (fun i _ => hgm i) (fun i _ hl _ => hg i hl) (fun i _ hl _ gg nx' bk' ct' σ H b q => hs i hl gg nx' bk' ct' σ H b fun σ' H' b' => q () σ' H' trivial b') (fun _ σ H _ b => hd σ H b)
theorem w_while {ι : Type} {tb : TS} (a : At c rs ms σ H) (μ : ι → Nat) (Pr : ι → List (Option Rl)) (Pm : ι → Ms) (x0 : ι) (h0 : At c (Pr x0) (Pm x0) σ H) (b : ι → Bool) (ht : ∀ x, TJ c (Pr x) (Pm x) tt (b x))
    (hs : ∀ x, b x = true → ∀ nx' bk' ct' σ H, At c (Pr x) (Pm x) σ H → (∀ y σ' H', μ y < μ x → At c (Pr y) (Pm y) σ' H' → nx' σ' H') → tb ⟨nx', rt, bk', ct'⟩ σ H)
    (hd : ∀ x, b x = false → ∀ σ H, At c (Pr x) (Pm x) σ H → nx σ H) : tWhile tt tb ⟨nx, rt, bk, ct⟩ σ H := by
  refine ⟨fun m σ' H' => ∃ x, μ x = m ∧ At c (Pr x) (Pm x) σ' H', ⟨μ x0, x0, rfl, h0⟩, ?_⟩
  rintro m σ' H' ⟨x, rfl, w⟩
  refine ht x σ' H' w _ fun H1 a1 _ => ?_
  cases e : b x with
  | true => exact ⟨fun σ2 H2 => ∃ y, μ y < μ x ∧ At c (Pr y) (Pm y) σ2 H2, fun σ2 H2 ⟨y, l, b2⟩ => ⟨μ y, l, y, rfl, b2⟩, hs x e _ _ _ σ' H1 a1 fun y σ2 H2 l b2 => ⟨y, l, b2⟩⟩
  | false => exact hd x e σ' H1 a1
end
/-! ### a def keeps its promise -/
abbrev FnP (K : PySem.W.Frag) (x : Str) (st : Stmt) (f : Addr) (fd : FuncData) : Prop := FunD K x x (defArgs st) (defBody st) (defScope st) [] [] f fd
def rs0 (n : Nat) (Rs : List Rl) : List (Option Rl) := Rs.map some ++ List.replicate (n - Rs.length) none
theorem at_start {H : Hp} {N : List Str} {Rs : List Rl} {vs : List V} {ms : Ms} {d0 : List Addr} (h : Ps Rs vs H) (hm : Mems ms H) (hnd : (ads ms).Nodup) (hd : ads ms = d0) : At ⟨H, d0, []⟩ (rs0 N.length Rs) ms (L2.start N vs) H := by
  refine ⟨Kp.refl _ _, fun a ha => .inl (hd ▸ ha), fun a ha => hd ▸ ha, (fun g hg => by cases hg), ?_, fun i r hr => ?_, hm, hnd⟩
  · unfold L2.start rs0
    simp [h.len]
  · unfold rs0 at hr
    by_cases hi : i < Rs.length
    · rw [List.getElem?_append_left (by simpa using hi), List.getElem?_map] at hr
      cases e : Rs[i]? with
      | none => rw [e] at hr; cases hr
      | some s =>
        rw [e] at hr
        have e2 : s = r := Option.some.inj (Option.some.inj hr)
        subst e2
        obtain ⟨v, e3, e4⟩ := h.get e
        refine ⟨v, ?_, e4⟩
        unfold L2.start
        rw [List.getElem?_append_left (by simp [h.len]; exact hi), List.getElem?_map, e3]; rfl
    · rw [List.getElem?_append_right (by simpa using hi), List.getElem?_replicate] at hr
      split at hr <;> cases hr
/-- what a body has to show -/
def SJ (t : TS) (c : Ct) (rs : List (Option Rl)) (ms : Ms) (R : Rl) : Prop := ∀ σ H, At c rs ms σ H → ∀ Q : VK, (∀ v H', Kp c.d0 c.H0 H' → Mems ms H' → R.p v H' → Q v H') → t { nx := fun _ H' => Q .non H', rt := Q } σ H
theorem okP {P : Program} {w : World} {K : PySem.W.Frag} {mg : Str → Option Value} {base : Heap} {x : Str} {st : Stmt} {f : Addr} {fd : FuncData} {N ps : List Str} {k : Nat} {S : List Rl → Rl → Prop} {t : TS} (F : FnP K x st f fd) (sc : FnScope N ps (defScope st))
    (hl : ∀ Rs R, S Rs R → Rs.length = ps.length)
    (hd : ∀ (cdv : Value) (A : Around) (outer : List Env) (s : Shared) (H : Hp) (E : XK), Room k (A.deeper (envOfC x (defScope st) s.heap.objs.size f cdv)) → PSs (cxOf CX0 P w K mg base N x (defScope st) f cdv A outer s H E).nox (defBody st) t)
    (hs : ∀ Rs R, S Rs R → ∀ H0, SJ t ⟨H0, [], []⟩ (rs0 N.length Rs) [] R) : FnOk P w K mg base CX0 (k + 1) f fd ps (spP S) := by
  refine F.ok sc (fun vs H Q E h => ?_) (fun cdv A outer s H vs Q E hr h => ⟨t, (hd cdv A outer s H E hr).nox, ?_⟩)
  · obtain ⟨Rs, R, h1, h2, _⟩ := h
    rw [h2.len, hl Rs R h1]
  · obtain ⟨Rs, R, h1, h2, q⟩ := h
    exact hs Rs R h1 H _ H (at_start h2 (fun m hm => by cases hm) List.nodup_nil rfl) Q fun v H' k' _ p => q v H' k' p
theorem okD {P : Program} {w : World} {K : PySem.W.Frag} {mg : Str → Option Value} {base : Heap} {x : Str} {st : Stmt} {f : Addr} {fd : FuncData} {N ps : List Str} {k : Nat} {S : List Rl → Rl → Prop} {t : TS} (F : FnP K x st f fd) (sc : FnScope N ps (defScope st))
    (hl : ∀ Rs R, S Rs R → Rs.length + 1 = ps.length)
    (hd : ∀ (cdv : Value) (A : Around) (outer : List Env) (s : Shared) (H : Hp) (E : XK), Room k (A.deeper (envOfC x (defScope st) s.heap.objs.size f cdv)) → PSs (cxOf CX0 P w K mg base N x (defScope st) f cdv A outer s H E).nox (defBody st) t)
    (hs : ∀ Rs R d, S Rs R → ∀ H0, SJ t ⟨H0, [d], []⟩ (rs0 N.length (IsV (.ref d) :: Rs)) [(d, Dice)] R) : FnOk P w K mg base CX0 (k + 1) f fd ps (spD S) := by
  refine F.ok sc (fun vs H Q E h => ?_) (fun cdv A outer s H vs Q E hr h => ⟨t, (hd cdv A outer s H E hr).nox, ?_⟩)
  · obtain ⟨d, ws, Rs, R, rfl, h1, h2, _⟩ := h
    rw [List.length_cons, h2.len, hl Rs R h1]
  · obtain ⟨d, ws, Rs, R, rfl, h1, h2, h3, q⟩ := h
    refine hs Rs R d h1 H _ H (at_start (Rs := IsV (.ref d) :: Rs) (vs := .ref d :: ws) (show Ps (IsV (.ref d) :: Rs) (.ref d :: ws) H from ⟨rfl, h2⟩) (fun m hm => ?_) (by simp [ads]) rfl) Q fun v H' k' m p => q v H' k' (m (d, Dice) List.mem_cons_self) p
    have e : m = (d, Dice) := by simpa using hm
    subst e; exact h3
end K45
namespace K45
open PySem PySem.Spec PyProof.Rows L2
/-! ### operators by short names -/
abbrev rAddI : R2 := rI0 fun i j => .int (i + j)
abbrev rSubI : R2 := rI0 fun i j => .int (i - j)
abbrev rMulI : R2 := rI CMul fun i j => .int (i * j)
abbrev rMulW : R2 := rI CMulW fun i j => .int (i * j)
abbrev rDivI : R2 := rI CDiv fun i j => .int (i / j)
abbrev rDivW : R2 := rI CDivW fun i j => .int (i / j)
abbrev rDivN : R2 := rI CDivN fun i j => .int (i.fdiv j)
abbrev rModI : R2 := rI (fun _ j => 0 < j) fun i j => .int (i % j)
abbrev rPowI : R2 := rI CPow fun i j => .int (i ^ j.toNat)
abbrev rLtB : R2 := rI0 fun i j => .bl (decide (i < j))
abbrev rLeB : R2 := rI0 fun i j => .bl (decide (i ≤ j))
abbrev rGtB : R2 := rI0 fun i j => .bl (decide (j < i))
abbrev rGeB : R2 := rI0 fun i j => .bl (decide (j ≤ i))
abbrev rNegI : V → Hp → VK → Prop := rU fun i => .int (-i)
abbrev rAbsI : List V → Hp → VK → Prop := fun xs H Q => ∃ i, xs = [.int i] ∧ Q (.int (if i < 0 then -i else i)) H
abbrev rMax2 : List V → Hp → VK → Prop := fun xs H Q => ∃ i j, xs = [.int i, .int j] ∧ Q (.int (if j > i then j else i)) H
abbrev rMin2 : List V → Hp → VK → Prop := fun xs H Q => ∃ i j, xs = [.int i, .int j] ∧ Q (.int (if j < i then j else i)) H
abbrev rInt1 : List V → Hp → VK → Prop := fun xs H Q => (∃ i, xs = [.int i] ∧ Q (.int i) H) ∨ ∃ k, xs = [.bl k] ∧ Q (.int (if k then 1 else 0)) H
/-! ### the module's names -/
structure Gb (mg : Str → Option Value) : Prop where
  len_ : mg "len" = none
  tuple_ : mg "tuple" = none
  list_ : mg "list" = none
  range_ : mg "range" = none
  zip_ : mg "zip" = none
  enumerate_ : mg "enumerate" = none
  int_ : mg "int" = none
  abs_ : mg "abs" = none
  max_ : mg "max" = none
  min_ : mg "min" = none
  all_ : mg "all" = none
  any_ : mg "any" = none
  isinstance_ : mg "isinstance" = none
  repr_ : mg "repr" = none
  next_ : mg "next" = none
  bool_ : mg "bool" = none
  Told_ : mg "Told" = some (.ref 337)
  Form_ : mg "Form" = some (.ref 511)
  gcd_ : mg "gcd" = some (.builtin "math.gcd")
  GREATEST_ : ∃ u, mg "GREATEST" = some u ∧ RelV (.int (10 ^ 60)) u
  MAX_DEGREE_ : ∃ u, mg "MAX_DEGREE" = some u ∧ RelV (.int 40) u
  MOST_LAID_ : ∃ u, mg "MOST_LAID" = some u ∧ RelV (.int 40) u
  MAX_TOLD_ : ∃ u, mg "MAX_TOLD" = some u ∧ RelV (.int 6) u
structure Dfn (K : PySem.W.Frag) (mg : Str → Option Value) (x : Str) (st : Stmt) : Prop where
  ex : ∃ (f : Addr) (fd : FuncData), FnP K x st f fd ∧ mg x = some (.ref f)
section
variable {P : Program} {w : World} {K : PySem.W.Frag} {mg : Str → Option Value} {base : Heap} {x : Str} {st : Stmt} {N ps : List Str} {k : Nat} {S : List Rl → Rl → Prop} {t : TS}
abbrev BindsW (x : Str) (st : Stmt) (ps : List Str) : Prop := ∀ (kV doc pm : Value) (an : Option Addr) (cdv ct : Value) (us : List Value), us.length = ps.length → bindArgs (PySem.W.fnOf x x (defArgs st) (defBody st) (defScope st) .none kV doc pm an cdv ct) ⟨us, []⟩ = pure (ps.zip us)
abbrev BindsQ (x q : Str) (st : Stmt) (ps : List Str) : Prop := ∀ (kV doc pm : Value) (an : Option Addr) (cdv ct : Value) (us : List Value), us.length = ps.length → bindArgs (PySem.W.fnOf x q (defArgs st) (defBody st) (defScope st) .none kV doc pm an cdv ct) ⟨us, []⟩ = pure (ps.zip us)
theorem calP (D : Dfn K mg x st) (sc : FnScope N ps (defScope st)) (b : BindsW x st ps) (hl : ∀ Rs R, S Rs R → Rs.length = ps.length)
    (hd : ∀ (f : Addr) (cdv : Value) (A : Around) (outer : List Env) (s : Shared) (H : Hp) (E : XK), Room k (A.deeper (envOfC x (defScope st) s.heap.objs.size f cdv)) → PSs (cxOf CX0 P w K mg base N x (defScope st) f cdv A outer s H E).nox (defBody st) t)
    (hs : ∀ Rs R, S Rs R → ∀ H0, SJ t ⟨H0, [], []⟩ (rs0 N.length Rs) [] R) : C8.Cal P w K mg base (k + 1) x (spP S) [] := by
  obtain ⟨f, fd, F, g⟩ := D.ex
  exact ⟨⟨f, fd, ps, [], okP F sc hl (hd f) hs, g, F.kp, F.bindsN b, .nil⟩⟩
theorem calD (D : Dfn K mg x st) (sc : FnScope N ps (defScope st)) (b : BindsW x st ps) (hl : ∀ Rs R, S Rs R → Rs.length + 1 = ps.length)
    (hd : ∀ (f : Addr) (cdv : Value) (A : Around) (outer : List Env) (s : Shared) (H : Hp) (E : XK), Room k (A.deeper (envOfC x (defScope st) s.heap.objs.size f cdv)) → PSs (cxOf CX0 P w K mg base N x (defScope st) f cdv A outer s H E).nox (defBody st) t)
    (hs : ∀ Rs R d, S Rs R → ∀ H0, SJ t ⟨H0, [d], []⟩ (rs0 N.length (IsV (.ref d) :: Rs)) [(d, Dice)] R) : C8.Cal P w K mg base (k + 1) x (spD S) [] := by
  obtain ⟨f, fd, F, g⟩ := D.ex
  exact ⟨⟨f, fd, ps, [], okD F sc hl (hd f) hs, g, F.kp, F.bindsN b, .nil⟩⟩
end
end K45
/-! enumerate over a tuple, zip of a list and a tuple: my own rules, over the library's Draws and Begins -/
namespace K45R
open PySem
open PySem.Sem (wp)
open AutoSeq1 (wpAny_loadPart')
theorem meets_enum_new {v : Value} {o1 : Obj} {G : Heap → Prop} (B : Begins v o1 G) :
    Meets (Builtin.«enumerate.__new__» ⟨[.type "enumerate", v], []⟩) (fun _ R s => G s.heap ∧
      R (.ok (.ret (.ref (s.heap.push o1).objs.size))) { s with heap := (s.heap.push o1).push { cls := .type "enumerate", data := .fields #[.none, .bool false, .ref s.heap.objs.size, rawInt 0, .none, .none] } }) :=
  .of_wp fun prog w A R s h => by
    obtain ⟨hp, g, d, tk, os⟩ := s
    obtain ⟨hg, h⟩ := h
    have hsub := sub_enumerate
    have q1 : ∀ {A' : Around} {E : Value → Shared → Prop} {Q : Value → Shared → Prop}, Q (.ref hp.objs.size) ⟨hp.push o1, g, d, tk, os⟩ → wpAny (model prog w) A' (pyIter v) Q E ⟨hp, g, d, tk, os⟩ :=
      fun q => B.iter prog w _ _ ⟨hp, g, d, tk, os⟩ _ hg q
    wp_walk using q1
    refine wpAny_stack_any fun st => wpAny_pure ?_
    split
    · rename_i c _ _ _ _ _
      cases (c == Value.type "enumerate")
      · wp_walk using q1
        exact ⟨_, rfl, h⟩
      · wp_walk using q1
        exact ⟨_, rfl, h⟩
    · wp_walk using q1
      exact ⟨_, rfl, h⟩
section
variable {prog : Program} {w : World} {A : Around} {E : Value → Shared → Prop} {s : Shared}
theorem call_enum {v : Value} {o1 : Obj} {G : Heap → Prop} {Q : Value → Shared → Prop} (B : Begins v o1 G) (hg : G s.heap)
    (h : ∀ h', IsEnum h' (s.heap.objs.size + 1) s.heap.objs.size 0 .none → h'.get? s.heap.objs.size = some o1 → (∀ b o, s.heap.get? b = some o → h'.get? b = some o) → Q (.ref (s.heap.objs.size + 1)) { s with heap := h' }) :
    wpAny (model prog w) A (call (.type "enumerate") [v]) Q E s := by
  refine callType_new F.called_enumerate (by decide) (F.typeCall_enumerate_1 _) (F.newCall_enumerate_1 _) (fun obj => F.args_object_init_2 obj _) F.entry_enumerate_new (meets_enum_new B) ⟨hg, ?_⟩
  have hz : (s.heap.push o1).objs.size = s.heap.objs.size + 1 := Heap.size_push ..
  show _ ∧ _
  rw [hz]
  have he : ((s.heap.push o1).push { cls := .type "enumerate", data := .fields #[.none, .bool false, .ref s.heap.objs.size, rawInt 0, .none, .none] }).get? (s.heap.objs.size + 1) = some { cls := .type "enumerate", data := .fields #[.none, .bool false, .ref s.heap.objs.size, rawInt 0, .none, .none] } := by
    have q := Heap.get?_push_size (s.heap.push o1) (o := { cls := .type "enumerate", data := .fields #[.none, .bool false, .ref s.heap.objs.size, rawInt 0, .none, .none] }) rfl
    rwa [hz] at q
  exact ⟨⟨_, he, rfl⟩, h _ he (Heap.get?_push_of_some _ (Heap.get?_push_size _ B.free)) fun b o x => Heap.get?_push_of_some _ (Heap.get?_push_of_some _ x)⟩
end
end K45R
namespace K45
open PySem PySem.Spec PyProof.Rows L2
/-- the tuple at a, each item in a new pair behind its place -/
def IteT (K : PySem.W.Frag) (a : Addr) : It :=
  ⟨fun i H => ∃ (xs : List V) (x : V), SqT K H a xs ∧ xs[i]? = some x,
   fun i H v H' => ∃ p x, v = .ref p ∧ H p = none ∧ H' = upd H p (.tup [.int (i : Nat), x]) ∧ ∀ xs, SqT K H a xs → xs[i]? = some x,
   fun i H => ∃ xs : List V, SqT K H a xs ∧ xs.length = i⟩
theorem turn_enumT {P : Program} {w : World} {K : PySem.W.Frag} {elts : List Expr} {kk : Nat} {tpos : Pos} (a e it : Addr) (hai : a ≠ it) :
    Turn P w K (.Tuple elts kk tpos) (IteT K a) [e, it] e (fun i h => (∃ old, IsEnum h e it ((i : Nat) : Int) old) ∧ h.IsTupleIter it a i ∧ e ≠ it ∧ a ≠ e) where
  mem := by simp
  obj := fun i h st b hb => by
    obtain ⟨⟨old, he⟩, ⟨o, ho, hc, hd⟩, _⟩ := st
    have e' : b = e ∨ b = it := by simpa using hb
    rcases e' with z | z
    · subst z
      exact ⟨_, he, fun v q => nomatch q⟩
    · subst z
      exact ⟨o, ho, fun v q => by rw [hd] at q; cases q⟩
  keep := fun i h h' st k => by
    obtain ⟨⟨old, he⟩, hi, hne, h2⟩ := st
    exact ⟨⟨old, k e (by simp) _ he⟩, hi.at fun o q => k it (by simp) o q, hne, h2⟩
  item := by
    intro X hP hw hK hc i pins s σ H E I hf st hg
    subst hP hw hK
    obtain ⟨⟨old, he⟩, hit, hne, hae⟩ := st
    obtain ⟨xs, x, hq, hx⟩ := hg
    obtain ⟨its, rv, p, hz⟩ := I.tuple hq
    obtain ⟨u, hu, ru⟩ := rv.get hx
    have hlt : i < its.toArray.size := by
      have := (List.getElem?_eq_some_iff.mp hu).1
      simpa using this
    have hel : e < s.heap.objs.size := Heap.lt_size he
    have hil : it < s.heap.objs.size := by obtain ⟨_, q, _⟩ := hit; exact Heap.lt_size q
    have hh : X.A.in1.handled = none := I.ok.hd hc
    refine wpAny_pyNext_enum_itemD (Draws.tuple hh it a hai its.toArray) he ⟨hit, show s.heap.IsTuple a its.toArray from p⟩ hlt hne (by simp [hne, Ne.symm hae]) fun y h' tk py ho st' hT hsz hk => ?_
    obtain ⟨hit', _⟩ := st'
    have ey : y = u := by
      have q : its.toArray[i]? = some y := py
      rw [List.getElem?_toArray, hu] at q
      exact (Option.some.inj q).symm
    subst ey
    refine ⟨_, rfl, wpAny_letOwnedTupleGo_enum (s := { s with heap := h', toks := tk + 1 }) ho fun h'' he' sb => ?_⟩
    have hT2 : h''.get? s.heap.objs.size = some { cls := .type "tuple", data := .seq #[.int i tk, y] } := (sb.2 _ (Nat.ne_of_gt hel)).trans hT
    have new : ObjOk X.prog X.w (upd H s.heap.objs.size (.tup [.int (i : Nat), x])) h'' s.heap.objs.size (.tup [.int (i : Nat), x]) :=
      ⟨by show 2 ≤ sizeLine; decide, [.int i tk, y], .cons ⟨_, rfl⟩ (.cons ru .nil), ⟨_, hT2, rfl, _, rfl⟩⟩
    have I1 : Inv X pins σ (upd H s.heap.objs.size (.tup [.int (i : Nat), x])) { s with heap := h'', toks := tk + 1 } :=
      I.turnedNew (ch := [e, it]) (fun b ob hb q => (sb.2 b (fun z => hb (by simp [z]))).trans (hk b ob (fun z => hb (by simp [z])) (fun z => hb (by simp [z])) q)) hf (Nat.le_refl _) new
    refine ⟨.ref s.heap.objs.size, _, I1, rfl, ⟨_, x, rfl, I.hok.fresh (Nat.le_refl _), rfl, fun ys hy => by rw [I.tuple_inj hy hq]; exact hx⟩, ⟨⟨y, ?_⟩, hit'.at fun o q => (sb.2 it (Ne.symm hne)).trans q, hne, hae⟩, fun b hb => ?_⟩
    · have e1 : ((i + 1 : Nat) : Int) = (i : Int) + 1 := by omega
      rw [e1]; exact he'
    · have hb' : b < s.heap.objs.size := by
        have e' : b = e ∨ b = it := by simpa using hb
        rcases e' with z | z
        · rw [z]; exact hel
        · rw [z]; exact hil
      rw [upd_ne (Nat.ne_of_lt hb')]
      exact (hf b hb).1
  done := by
    intro X hP hw hK hc i pins s σ H E I hf st hg
    subst hP hw hK
    obtain ⟨⟨old, he⟩, hit, hne, hae⟩ := st
    obtain ⟨xs, hq, hx⟩ := hg
    obtain ⟨its, rv, p, hz⟩ := I.tuple hq
    obtain ⟨f0, f1, f2, f3, f4, f5⟩ := hf it (by simp)
    have hl := rv.length
    have hh : X.A.in1.handled = none := I.ok.hd hc
    have hn : i = its.toArray.size := by
      have q : its.toArray.size = its.length := by simp
      omega
    subst hn
    exact wpAny_pyNext_enum_endD (Draws.tuple hh it a hai its.toArray) he ⟨hit, show s.heap.IsTuple a its.toArray from p⟩ fun h' eb => ⟨rfl, I.turned (t' := s.toks) (fun b o hb q => eb b o hb q) f0 f1 f3 f4 f5⟩
  self := fun A i s Q E st h => let ⟨⟨_, he⟩, _⟩ := st; wpAny_pyIter_enum he h
def iEnumT (K : PySem.W.Frag) (ta : TA) : L2.TI := fun σ H R => ta σ H fun vs H1 => ∃ a xs, vs = [.ref a] ∧ SqT K H1 a xs ∧ R (IteT K a) H1
theorem pi_enumT {X : Cx} {e : Expr} {ta : TA} {p pos tpos : Pos} {elts : List Expr} {kk : Nat} (hg : Gl X "enumerate") (hm : X.mg "enumerate" = none) (ha : PA X [e] ta) (hs : starEach [e] X.env = [(false, eval e X.env)] := by rfl) :
    PI X (.Tuple elts kk tpos) (.Call (.Name "enumerate" p) [e] [] pos) (iEnumT X.K ta) := by
  refine ⟨fun pins s σ H R I h => ?_⟩
  refine Call_ (ld_blt I hg hm boot_enumerate (PyProof.Rows.callWith_type1 (thn (ha.run pos pins s σ H _ I h) fun us s1 ⟨vs, H1, I1, r1, q1⟩ => ?_) hs rfl))
  obtain ⟨a, xs, ex, hq, q⟩ := q1
  subst ex
  cases r1 with
  | cons r rr =>
    cases rr
    cases r
    obtain ⟨its, rv, p', hz⟩ := I1.tuple hq
    have hal : a < s1.heap.objs.size := by
      obtain ⟨o, ho, _⟩ := p'
      exact Heap.lt_size ho
    refine K45R.call_enum (begins_tuple a its.toArray) (show s1.heap.IsTuple a its.toArray from p') fun h' he hit hk => wpAny_pyIter_enum he ?_
    have I2 : Inv X pins σ H1 { s1 with heap := h' } := I1.kept (t' := s1.toks) hk
    refine ⟨s1.heap.objs.size + 1, [s1.heap.objs.size + 1, s1.heap.objs.size], _, _, H1, rfl, I2, turn_enumT a (s1.heap.objs.size + 1) s1.heap.objs.size (Nat.ne_of_lt hal), ⟨⟨.none, he⟩, ⟨_, hit, rfl, rfl⟩, Nat.succ_ne_self _, Nat.ne_of_lt (Nat.lt_succ_of_lt hal)⟩, fun b hb => ?_, q⟩
    have e' : b = s1.heap.objs.size + 1 ∨ b = s1.heap.objs.size := by simpa using hb
    have hle : s1.heap.objs.size ≤ b := by
      rcases e' with z | z
      · rw [z]; exact Nat.le_add_right _ _
      · rw [z]; exact Nat.le_refl _
    exact I1.fpOk hle (I1.hok.fresh hle)
/-! ### zip of a list and a tuple -/
def ItzM (K : PySem.W.Frag) (a b : Addr) : It :=
  ⟨fun i H => ∃ (xs ys : List V) (x y : V), SqL K H a xs ∧ SqT K H b ys ∧ xs[i]? = some x ∧ ys[i]? = some y,
   fun i H v H' => ∃ p x y, v = .ref p ∧ H p = none ∧ H' = upd H p (.tup [x, y]) ∧ (∀ xs, SqL K H a xs → xs[i]? = some x) ∧ ∀ ys, SqT K H b ys → ys[i]? = some y,
   fun i H => ∃ xs ys : List V, SqL K H a xs ∧ SqT K H b ys ∧ i ≤ xs.length ∧ i ≤ ys.length ∧ (i = xs.length ∨ i = ys.length)⟩
theorem turn_zipM {P : Program} {w : World} {K : PySem.W.Frag} {elts : List Expr} {kk : Nat} {tpos : Pos} {a b z P1 P2 i1 i2 : Addr} (S : ZipSep2 z P1 P2 i1 i2 [i1, a] [i2, b]) (h1a : a ≠ i1) (h2b : b ≠ i2) :
    Turn P w K (.Tuple elts kk tpos) (ItzM K a b) [z, P1, P2, i1, i2] z (fun i h => IsZip h z P1 P2 .none ∧ IsPair h P1 (.ref i1) (.ref i2) ∧ (∃ x y, IsPair h P2 x y) ∧ h.IsListIter i1 a i ∧ h.IsTupleIter i2 b i) where
  mem := by simp
  obj := fun i h st c hc => by
    obtain ⟨hz, hTI, ⟨x, y, hTO⟩, ⟨o1, e1, _, d1⟩, ⟨o2, e2, _, d2⟩⟩ := st
    have e' : c = z ∨ c = P1 ∨ c = P2 ∨ c = i1 ∨ c = i2 := by simpa using hc
    rcases e' with q | q | q | q | q <;> subst q
    · exact ⟨_, hz, fun v q => nomatch q⟩
    · exact ⟨_, hTI, fun v q => nomatch q⟩
    · exact ⟨_, hTO, fun v q => nomatch q⟩
    · exact ⟨o1, e1, fun v q => by rw [d1] at q; cases q⟩
    · exact ⟨o2, e2, fun v q => by rw [d2] at q; cases q⟩
  keep := fun i h h' st k => by
    obtain ⟨hz, hTI, ⟨x, y, hTO⟩, h1, h2⟩ := st
    exact ⟨k z (by simp) _ hz, k P1 (by simp) _ hTI, ⟨x, y, k P2 (by simp) _ hTO⟩, h1.at fun o q => k i1 (by simp) o q, h2.at fun o q => k i2 (by simp) o q⟩
  item := by
    intro X hP hw hK hc i pins s σ H E I hf st hg
    subst hP hw hK
    obtain ⟨hz, hTI, ⟨x0, y0, hTO⟩, h1, h2⟩ := st
    obtain ⟨xs, ys, x, y, hqx, hqy, hx, hy⟩ := hg
    obtain ⟨its, rv, p, _⟩ := I.list hqx
    obtain ⟨its2, rv2, p2, _⟩ := I.tuple hqy
    obtain ⟨u, hu, ru⟩ := rv.get hx
    obtain ⟨u2, hu2, ru2⟩ := rv2.get hy
    have l1 : i < its.toArray.size := by
      have := (List.getElem?_eq_some_iff.mp hu).1
      simpa using this
    have l2 : i < its2.toArray.size := by
      have := (List.getElem?_eq_some_iff.mp hu2).1
      simpa using this
    have hzl : z < s.heap.objs.size := Heap.lt_size hz
    have hh : X.A.in1.handled = none := I.ok.hd hc
    refine wpAny_pyNext_zipD2_item S (Draws.list hh i1 a h1a its.toArray) (Draws.tuple hh i2 b h2b its2.toArray) hz hTI hTO ⟨h1, p.isList⟩ ⟨h2, show s.heap.IsTuple b its2.toArray from p2⟩ l1 l2 fun y1 y2 h' tk q1 q2 z' TO' st1 st2 hT hsz hk => ?_
    have e1 : y1 = u := by
      have q : its.toArray[i]? = some y1 := q1
      rw [List.getElem?_toArray, hu] at q
      exact (Option.some.inj q).symm
    have e2 : y2 = u2 := by
      have q : its2.toArray[i]? = some y2 := q2
      rw [List.getElem?_toArray, hu2] at q
      exact (Option.some.inj q).symm
    subst e1 e2
    refine ⟨_, rfl, wpAny_letOwnedTupleGo_zip (s := { s with heap := h', toks := tk }) z' fun h'' z'' sb => ?_⟩
    have hT2 : h''.get? s.heap.objs.size = some { cls := .type "tuple", data := .seq #[y1, y2] } := (sb.2 _ (Nat.ne_of_gt hzl)).trans hT
    have new : ObjOk X.prog X.w (upd H s.heap.objs.size (.tup [x, y])) h'' s.heap.objs.size (.tup [x, y]) :=
      ⟨by show 2 ≤ sizeLine; decide, [y1, y2], .cons ru (.cons ru2 .nil), ⟨_, hT2, rfl, _, rfl⟩⟩
    have I1 : Inv X pins σ (upd H s.heap.objs.size (.tup [x, y])) { s with heap := h'', toks := tk } :=
      I.turnedNew (t' := tk) (ch := [z, P1, P2, i1, i2]) (fun c o hb q => (sb.2 c (fun q' => hb (by simp [q']))).trans (hk c o (fun q' => hb (by simp [q'])) (fun q' => hb (by simp [q'])) (fun q' => hb (by simp [q'])) (fun q' => hb (by simp [q'])) q)) hf (Nat.le_refl _) new
    refine ⟨.ref s.heap.objs.size, _, I1, rfl, ⟨_, x, y, rfl, I.hok.fresh (Nat.le_refl _), rfl, fun l hl => by rw [I.list_inj hl hqx]; exact hx, fun l hl => by rw [I.tuple_inj hl hqy]; exact hy⟩, ⟨z'', ?_, ⟨y1, y2, ?_⟩, ?_, ?_⟩, fun c hcm => ?_⟩
    · exact (sb.2 _ S.TIz).trans (hk _ _ S.TIz S.TITO S.TIi1 S.TIi2 hTI)
    · exact (sb.2 _ S.TOz).trans TO'
    · exact st1.1.at fun o q => (sb.2 _ S.zi1.symm).trans q
    · exact st2.1.at fun o q => (sb.2 _ S.zi2.symm).trans q
    · have hlt : c < s.heap.objs.size := by
        have e' : c = z ∨ c = P1 ∨ c = P2 ∨ c = i1 ∨ c = i2 := by simpa using hcm
        rcases e' with q | q | q | q | q
        · rw [q]; exact hzl
        · rw [q]; exact Heap.lt_size hTI
        · rw [q]; exact Heap.lt_size hTO
        · rw [q]; obtain ⟨_, e1, _⟩ := h1; exact Heap.lt_size e1
        · rw [q]; obtain ⟨_, e2, _⟩ := h2; exact Heap.lt_size e2
      rw [upd_ne (Nat.ne_of_lt hlt)]
      exact (hf c hcm).1
  done := by
    intro X hP hw hK hc i pins s σ H E I hf st hg
    subst hP hw hK
    obtain ⟨hz, hTI, ⟨x0, y0, hTO⟩, h1, h2⟩ := st
    obtain ⟨xs, ys, hqx, hqy, g1, g2, g3⟩ := hg
    obtain ⟨its, rv, p, _⟩ := I.list hqx
    obtain ⟨its2, rv2, p2, _⟩ := I.tuple hqy
    have l1 := rv.length
    have l2 := rv2.length
    have hh : X.A.in1.handled = none := I.ok.hd hc
    exact wpAny_pyNext_zipD2_end S (Draws.list hh i1 a h1a its.toArray) (Draws.tuple hh i2 b h2b its2.toArray) hz hTI hTO ⟨h1, p.isList⟩ ⟨h2, show s.heap.IsTuple b its2.toArray from p2⟩ (by simp; omega) (by simp; omega) (by simp; omega) fun h' tk hk => ⟨rfl, I.turnedL (t' := tk) (ch := [z, P1, P2, i1, i2]) (fun c o hb q =>
      hk c o (fun q' => hb (by simp [q'])) (fun q' => hb (by simp [q'])) (fun q' => hb (by simp [q'])) (fun q' => hb (by simp [q'])) q) hf⟩
  self := fun A i s Q E st h => wpAny_pyIter_zip st.1 h
def iZipM (K : PySem.W.Frag) (ta : TA) : L2.TI := fun σ H R => ta σ H fun vs H1 => ∃ a b xs ys, vs = [.ref a, .ref b] ∧ SqL K H1 a xs ∧ SqT K H1 b ys ∧ R (ItzM K a b) H1
theorem pi_zipM {X : Cx} {e e2 : Expr} {ta : TA} {p pos tpos : Pos} {elts : List Expr} {kk : Nat} (hg : Gl X "zip") (hm : X.mg "zip" = none) (ha : PA X [e, e2] ta)
    (hs : starEach [e, e2] X.env = (false, eval e X.env) :: starEach [e2] X.env := by rfl) (hpl : (backTo pos (starEach [e2] X.env)).any (·.1) = false := by rfl) :
    PI X (.Tuple elts kk tpos) (.Call (.Name "zip" p) [e, e2] [] pos) (iZipM X.K ta) := by
  refine ⟨fun pins s σ H R I h => ?_⟩
  refine Call_ (ld_blt I hg hm PyProof.Rows.boot_zip (PyProof.Rows.callWith_type1 (thn (ha.run pos pins s σ H _ I h) fun us s1 ⟨vs, H1, I1, r1, q1⟩ => ?_) hs hpl))
  obtain ⟨a, b, xs, ys, ex, hqx, hqy, q⟩ := q1
  subst ex
  cases r1 with
  | cons r rr =>
    cases rr with
    | cons r' rr =>
      cases rr
      cases r
      cases r'
      obtain ⟨its, rv, p1, _⟩ := I1.list hqx
      obtain ⟨its2, rv2, p2, _⟩ := I1.tuple hqy
      have hal : a < s1.heap.objs.size := p1.lt
      have hbl : b < s1.heap.objs.size := by
        obtain ⟨o, ho, _⟩ := p2
        exact Heap.lt_size ho
      refine zip_begins2 (begins_list a its.toArray) (begins_tuple b its2.toArray) p1.isList (show s1.heap.IsTuple b its2.toArray from p2) fun h' hz hTI hTO h1 h2 hsz hk => wpAny_pyIter_zip hz ?_
      have I2 : Inv X pins σ H1 { s1 with heap := h' } := I1.kept (t' := s1.toks) hk
      refine ⟨s1.heap.objs.size + 4, [s1.heap.objs.size + 4, s1.heap.objs.size + 2, s1.heap.objs.size + 3, s1.heap.objs.size, s1.heap.objs.size + 1], _, _, H1, rfl, I2,
        turn_zipM (zip_sep2 (fp1 := [a]) (fp2 := [b]) (fun c hc => by rw [List.mem_singleton.mp hc]; exact hal) (fun c hc => by rw [List.mem_singleton.mp hc]; exact hbl)) (Nat.ne_of_lt hal) (Nat.ne_of_lt (Nat.lt_succ_of_lt hbl)), ⟨hz, hTI, ⟨_, _, hTO⟩, ⟨_, h1, rfl, rfl⟩, ⟨_, h2, rfl, rfl⟩⟩, fun c hcm => ?_, q⟩
      have e' : c = s1.heap.objs.size + 4 ∨ c = s1.heap.objs.size + 2 ∨ c = s1.heap.objs.size + 3 ∨ c = s1.heap.objs.size ∨ c = s1.heap.objs.size + 1 := by simpa using hcm
      have hle : s1.heap.objs.size ≤ c := by
        rcases e' with z | z | z | z | z <;> rw [z]
        · exact Nat.le_add_right _ _
        · exact Nat.le_add_right _ _
        · exact Nat.le_add_right _ _
        · exact Nat.le_refl _
        · exact Nat.le_add_right _ _
      exact I1.fpOk hle (I1.hok.fresh hle)
end K45
namespace K45
open PySem PySem.Spec PyProof.Rows L2
/-! ### less is known -/
def Wk : List (Option Rl) → List (Option Rl) → Prop
  | [], [] => True
  | _ :: a, none :: b => Wk a b
  | some r :: a, some s :: b => (∀ v H, r.p v H → s.p v H) ∧ Wk a b
  | _, _ => False
theorem Wk.len : ∀ {a b : List (Option Rl)}, Wk a b → b.length = a.length
  | [], [], _ => rfl
  | _ :: a, none :: b, h => by simp [Wk.len (a := a) (b := b) (by cases ‹Option Rl› <;> exact h)]
  | some r :: a, some s :: b, h => by simp [Wk.len h.2]
  | [], _ :: _, h => h.elim
  | none :: _, some _ :: _, h => h.elim
  | none :: _, [], h => h.elim
  | some _ :: _, [], h => h.elim
theorem Wk.get : ∀ {a b : List (Option Rl)}, Wk a b → ∀ (i : Nat) (r : Rl), b[i]? = some (some r) → ∃ s, a[i]? = some (some s) ∧ ∀ v H, s.p v H → r.p v H
  | [], [], _, i, r, e => by simp at e
  | x :: a, none :: b, h, 0, r, e => by simp at e
  | x :: a, none :: b, h, i + 1, r, e => Wk.get (a := a) (b := b) (by cases x <;> exact h) i r (by simpa using e)
  | some s :: a, some t :: b, h, 0, r, e => ⟨s, rfl, by
      have e2 : t = r := Option.some.inj (Option.some.inj e)
      subst e2; exact h.1⟩
  | some s :: a, some t :: b, h, i + 1, r, e => Wk.get h.2 i r (by simpa using e)
  | [], _ :: _, h, _, _, _ => h.elim
  | none :: _, some _ :: _, h, _, _, _ => h.elim
  | none :: _, [], h, _, _, _ => h.elim
  | some _ :: _, [], h, _, _, _ => h.elim
theorem At.wk {c : Ct} {rs rs' : List (Option Rl)} {ms : Ms} {σ : L2.St} {H : Hp} (h : At c rs ms σ H) (w : Wk rs rs') : At c rs' ms σ H :=
  h.weak w.len fun i r e => by
    obtain ⟨s, e1, e2⟩ := w.get i r e
    exact ⟨s, e1, fun v => e2 v H⟩
theorem Wk.refl : ∀ {a : List (Option Rl)}, Wk a a
  | [] => trivial
  | none :: a => Wk.refl (a := a)
  | some r :: a => ⟨fun _ _ h => h, Wk.refl⟩
/-! ### exact lists -/
abbrev Xs := List (Addr × List V)
def exm (xs : Xs) : Ms := xs.map fun p => (p.1, (· = p.2))
theorem ads_exm : ∀ {xs : Xs}, ads (exm xs) = xs.map Prod.fst
  | [] => rfl
  | x :: xs => by
    have := ads_exm (xs := xs)
    show x.1 :: ads (exm xs) = x.1 :: xs.map Prod.fst
    rw [this]
theorem mems_exm {xs : Xs} {H : Hp} : Mems (exm xs) H ↔ ∀ x ∈ xs, H x.1 = some (.lst x.2) := by
  constructor
  · intro h x hx
    obtain ⟨ys, e1, e2⟩ := h (x.1, (· = x.2)) (List.mem_map_of_mem (f := fun p : Addr × List V => (p.1, (· = p.2))) hx)
    cases (show ys = x.2 from e1)
    exact e2
  · intro h m hm
    obtain ⟨x, hx, rfl⟩ := List.mem_map.mp hm
    exact ⟨x.2, rfl, h x hx⟩
theorem kp_exm {xs : Xs} {H H' : Hp} (k : Kp (xs.map Prod.fst) H H') (a : Mems (exm xs) H) (b : Mems (exm xs) H') : Kp [] H H' := fun p o e _ => by
  by_cases hp : p ∈ xs.map Prod.fst
  · obtain ⟨x, hx, rfl⟩ := List.mem_map.mp hp
    have e1 := mems_exm.mp a x hx
    have e2 := mems_exm.mp b x hx
    rw [e] at e1; exact St.of (by rw [e2, ← e1])
  · exact k p o e hp
/-- the promise of a def that looks at lists -/
def spX (S : List Rl → Xs → Rl → Prop) : Sp := fun vs H Q _ => ∃ Rs xs R, S Rs xs R ∧ Ps Rs vs H ∧ Mems (exm xs) H ∧ (xs.map Prod.fst).Nodup ∧ ∀ v H', Kp [] H H' → R.p v H' → Q v H'
/-- .. and answers a new list -/
def spXL (S : List Rl → Xs → List Rl → Prop) : Sp := fun vs H Q _ => ∃ Rs xs Rs', S Rs xs Rs' ∧ Ps Rs vs H ∧ Mems (exm xs) H ∧ (xs.map Prod.fst).Nodup ∧ ∀ p ys H', Kp [] H (del H' p) → H' p = some (.lst ys) → Ps Rs' ys (del H' p) → Q (.ref p) H'
section
variable {c : Ct} {rs : List (Option Rl)} {ms : Ms} {σ : L2.St} {H H' : Hp} {K : PySem.W.Frag} {R Ra Rb Rc : Rl} {te ta tb : TE} {tt : TT} {tr : TA} {Rs Ws Rs' : List Rl} {E : XK}
theorem im_del {p : Addr} {xs : List V} (e : H p = some (.lst xs)) : Im H (del H p) := fun a o h n => by
  have ne : a ≠ p := fun z => by rw [z, e] at h; exact n _ (Option.some.inj h).symm
  exact St.of (by rw [del_ne ne]; exact h)
/-- a new list is taken out again -/
theorem At.unown {p : Addr} {φ : List V → Prop} (h : At c rs ((p, φ) :: ms) σ H) (h0 : c.H0 p = none) (hd : p ∉ c.d0) : ∃ xs, H p = some (.lst xs) ∧ φ xs ∧ At c rs ms σ (del H p) := by
  obtain ⟨xs, e1, e2⟩ := h.me (p, φ) List.mem_cons_self
  have i := im_del e2
  refine ⟨xs, e2, e1, fun a o e n => ?_, fun a ha => h.fr a (List.mem_cons_of_mem _ ha), fun a ha => ?_, fun g hg => g.mono i (h.gh g hg), h.len, fun j r hr => ?_, fun m hm => ?_, (List.nodup_cons.mp h.nd).2⟩
  · have ne : a ≠ p := fun z => by rw [z, h0] at e; cases e
    exact (h.kp a o e n).bind fun o' e' _ => St.of (by rw [del_ne ne]; exact e')
  · rcases List.mem_cons.mp (h.ds a ha) with z | z
    · rw [z] at ha; exact absurd ha hd
    · exact z
  · obtain ⟨v, f1, f2⟩ := h.sl j r hr
    exact ⟨v, f1, r.mono i f2⟩
  · obtain ⟨ys, f1, f2⟩ := h.me m (List.mem_cons_of_mem _ hm)
    have ne : m.1 ≠ p := fun z => (List.nodup_cons.mp h.nd).1 (by have := mem_ads hm; rwa [z] at this)
    exact ⟨ys, f1, by rw [del_ne ne]; exact f2⟩
theorem e_callX {S : List Rl → Xs → Rl → Prop} {xs : Xs} (h : AJ c rs ms tr Rs) (hx : ∀ m ∈ exm xs, m ∈ ms) (hn : (xs.map Prod.fst).Nodup) (hs : S Rs xs R) : EJ c rs ms (tCall (spX S) [] E tr) R := fun σ H a Q q =>
  h σ H a _ fun vs H1 a1 k1 p1 => ⟨Rs, xs, R, hs, by rw [List.append_nil]; exact p1, a1.me.sub hx, hn, fun v H2 k2 p2 => q v H2 (a1.grow k2) (k1.trans k2.any) p2⟩
theorem el_callX {S : List Rl → Xs → List Rl → Prop} {xs : Xs} (h : AJ c rs ms tr Rs) (hx : ∀ m ∈ exm xs, m ∈ ms) (hn : (xs.map Prod.fst).Nodup) (hs : S Rs xs Rs') : EL c rs ms (tCall (spXL S) [] E tr) Rs' := fun σ H a Q q =>
  h σ H a _ fun vs H1 a1 k1 p1 => ⟨Rs, xs, Rs', hs, by rw [List.append_nil]; exact p1, a1.me.sub hx, hn, fun p ys H2 k2 e2 p2 => q p ys H2 (a1.grow k2) (k1.trans k2.any) e2 p2⟩
/-- a new list goes straight into a call -/
theorem el_callX1 {S : List Rl → Xs → List Rl → Prop} {ns : List Int} (h : EL c rs ms te (ns.map IsI)) (hs : ∀ p, S [IsV (.ref p)] [(p, ns.map V.int)] Rs') : EL c rs ms (tCall (spXL S) [] E (tCons te tNil)) Rs' := fun σ H a Q q =>
  h σ H a _ fun p xs H1 a1 k1 e1 p1 => by
    cases (ps_ints.mp p1)
    exact ⟨_, _, Rs', hs p, ⟨rfl, trivial⟩, mems_exm.mpr fun x hx => by
      have : x = (p, ns.map V.int) := by simpa using hx
      subst this; exact e1, by simp, fun p2 ys H2 k2 e2 r2 => q p2 ys H2 ((a1.back e1).grow k2) (k1.trans ((kp_del e1).trans k2).any) e2 r2⟩
theorem e_callX1 {S : List Rl → Xs → Rl → Prop} (h : EL c rs ms te Ws) (hs : ∀ p xs H, Ps Ws xs H → ∃ R', S [IsV (.ref p)] [(p, xs)] R' ∧ ∀ v H', R'.p v H' → R.p v H') : EJ c rs ms (tCall (spX S) [] E (tCons te tNil)) R := fun σ H a Q q =>
  h σ H a _ fun p xs H1 a1 k1 e1 p1 => by
    obtain ⟨R', s1, s2⟩ := hs p xs _ p1
    exact ⟨_, _, R', s1, ⟨rfl, trivial⟩, mems_exm.mpr fun x hx => by
      have : x = (p, xs) := by simpa using hx
      subst this; exact e1, by simp, fun v H2 k2 r2 => q v H2 ((a1.back e1).grow k2) (k1.trans ((kp_del e1).trans k2).any) (s2 _ _ r2)⟩
end
section
variable {P : Program} {w : World} {K : PySem.W.Frag} {mg : Str → Option Value} {base : Heap} {x : Str} {st : Stmt} {f : Addr} {fd : FuncData} {N ps : List Str} {k : Nat} {t : TS}
/-- what a body that answers a new list has to show -/
def SL (t : TS) (c : Ct) (rs : List (Option Rl)) (ms : Ms) (Rs : List Rl) : Prop := ∀ σ H, At c rs ms σ H → ∀ Q : VK, (∀ p ys H', Kp c.d0 c.H0 (del H' p) → Mems ms (del H' p) → H' p = some (.lst ys) → Ps Rs ys (del H' p) → Q (.ref p) H') → t { nx := fun _ H' => Q .non H', rt := Q } σ H
theorem mems_start {xs : Xs} {H : Hp} (h : Mems (exm xs) H) : Mems (exm xs) H := h
theorem okX {S : List Rl → Xs → Rl → Prop} (F : FnP K x st f fd) (sc : FnScope N ps (defScope st)) (hl : ∀ Rs xs R, S Rs xs R → Rs.length = ps.length)
    (hd : ∀ (cdv : Value) (A : Around) (outer : List Env) (s : Shared) (H : Hp) (E : XK), Room k (A.deeper (envOfC x (defScope st) s.heap.objs.size f cdv)) → PSs (cxOf CX0 P w K mg base N x (defScope st) f cdv A outer s H E).nox (defBody st) t)
    (hs : ∀ Rs xs R, S Rs xs R → ∀ H0, SJ t ⟨H0, xs.map Prod.fst, []⟩ (rs0 N.length Rs) (exm xs) R) : FnOk P w K mg base CX0 (k + 1) f fd ps (spX S) := by
  refine F.ok sc (fun vs H Q E h => ?_) (fun cdv A outer s H vs Q E hr h => ⟨t, (hd cdv A outer s H E hr).nox, ?_⟩)
  · obtain ⟨Rs, xs, R, h1, h2, _⟩ := h
    rw [h2.len, hl Rs xs R h1]
  · obtain ⟨Rs, xs, R, h1, h2, h3, h4, q⟩ := h
    exact hs Rs xs R h1 H _ H (at_start h2 h3 (by rw [ads_exm]; exact h4) ads_exm) Q fun v H' k' m p => q v H' (kp_exm k' h3 m) p
theorem okXL {S : List Rl → Xs → List Rl → Prop} (F : FnP K x st f fd) (sc : FnScope N ps (defScope st)) (hl : ∀ Rs xs R, S Rs xs R → Rs.length = ps.length)
    (hd : ∀ (cdv : Value) (A : Around) (outer : List Env) (s : Shared) (H : Hp) (E : XK), Room k (A.deeper (envOfC x (defScope st) s.heap.objs.size f cdv)) → PSs (cxOf CX0 P w K mg base N x (defScope st) f cdv A outer s H E).nox (defBody st) t)
    (hs : ∀ Rs xs R, S Rs xs R → ∀ H0, SL t ⟨H0, xs.map Prod.fst, []⟩ (rs0 N.length Rs) (exm xs) R) : FnOk P w K mg base CX0 (k + 1) f fd ps (spXL S) := by
  refine F.ok sc (fun vs H Q E h => ?_) (fun cdv A outer s H vs Q E hr h => ⟨t, (hd cdv A outer s H E hr).nox, ?_⟩)
  · obtain ⟨Rs, xs, R, h1, h2, _⟩ := h
    rw [h2.len, hl Rs xs R h1]
  · obtain ⟨Rs, xs, R, h1, h2, h3, h4, q⟩ := h
    exact hs Rs xs R h1 H _ H (at_start h2 h3 (by rw [ads_exm]; exact h4) ads_exm) Q fun p ys H' k' m e r => q p ys H' (kp_exm k' h3 m) e r
theorem calX {S : List Rl → Xs → Rl → Prop} (D : Dfn K mg x st) (sc : FnScope N ps (defScope st)) (b : BindsW x st ps) (hl : ∀ Rs xs R, S Rs xs R → Rs.length = ps.length)
    (hd : ∀ (f : Addr) (cdv : Value) (A : Around) (outer : List Env) (s : Shared) (H : Hp) (E : XK), Room k (A.deeper (envOfC x (defScope st) s.heap.objs.size f cdv)) → PSs (cxOf CX0 P w K mg base N x (defScope st) f cdv A outer s H E).nox (defBody st) t)
    (hs : ∀ Rs xs R, S Rs xs R → ∀ H0, SJ t ⟨H0, xs.map Prod.fst, []⟩ (rs0 N.length Rs) (exm xs) R) : C8.Cal P w K mg base (k + 1) x (spX S) [] := by
  obtain ⟨f, fd, F, g⟩ := D.ex
  exact ⟨⟨f, fd, ps, [], okX F sc hl (hd f) hs, g, F.kp, F.bindsN b, .nil⟩⟩
theorem calXL {S : List Rl → Xs → List Rl → Prop} (D : Dfn K mg x st) (sc : FnScope N ps (defScope st)) (b : BindsW x st ps) (hl : ∀ Rs xs R, S Rs xs R → Rs.length = ps.length)
    (hd : ∀ (f : Addr) (cdv : Value) (A : Around) (outer : List Env) (s : Shared) (H : Hp) (E : XK), Room k (A.deeper (envOfC x (defScope st) s.heap.objs.size f cdv)) → PSs (cxOf CX0 P w K mg base N x (defScope st) f cdv A outer s H E).nox (defBody st) t)
    (hs : ∀ Rs xs R, S Rs xs R → ∀ H0, SL t ⟨H0, xs.map Prod.fst, []⟩ (rs0 N.length Rs) (exm xs) R) : C8.Cal P w K mg base (k + 1) x (spXL S) [] := by
  obtain ⟨f, fd, F, g⟩ := D.ex
  exact ⟨⟨f, fd, ps, [], okXL F sc hl (hd f) hs, g, F.kp, F.bindsN b, .nil⟩⟩
end
end K45
namespace K45
open PySem PySem.Spec PyProof.Rows L2
section
variable {c : Ct} {rs : List (Option Rl)} {ms : Ms} {σ : L2.St} {H H' : Hp} {K : PySem.W.Frag} {R Ra Rb Rc : Rl} {te ta tb : TE} {tt : TT} {tr : TA} {Rs Ws Rs' : List Rl} {E : XK}
theorem el_lcI {wi : L2.TI} {g : TG} {vs is : List Nat} {n : Nat} {Y : Nat → Rl} {gm : Ms} {rs' : Nat → List (Option Rl)} {f : Nat → Int} {ns : List Int} (hi : IJ c rs ms wi n Y gm) (hgm : ∀ m ∈ gm, m ∈ ms) (his : ∀ i ∈ is, i ∈ vs) (hn : n ≤ 1000)
    (hg : ∀ i, i < n → ∀ (c : Ct) (ms : Ms), GJ c (wipeR rs vs) ms g (Y i) is (rs' i))
    (he : ∀ i, i < n → ∀ (x : Gh) (D : Addr) (acc : List V), EJ (c.add x) (rs' i) ((D, (· = acc)) :: ms) te (IsI (f i))) (e : ns = tab n f) : EL c rs ms (tLc wi g tYes te vs) (ns.map IsI) :=
  (el_lc hi hgm his hn hg he).weak fun xs H h => by
    rw [e]
    have : (List.range n).map (fun i => IsI (f i)) = (tab n f).map IsI := by simp [tab]
    rw [← this]; exact h
/-! ### numbers that are not told -/
abbrev AnyI : Rl := InR (fun _ => True)
abbrev AnyB : Rl := AnyR (fun _ : Bool => True) IsB
theorem EJ.any {i : Int} (h : EJ c rs ms te (IsI i)) : EJ c rs ms te AnyI := h.weak fun v H e => ⟨i, trivial, e⟩
theorem EJ.anyN {φ : Int → Prop} (h : EJ c rs ms te (InR φ)) : EJ c rs ms te AnyI := h.weak fun v H ⟨i, _, e⟩ => ⟨i, trivial, e⟩
theorem e_a0 {g : Int → Int → Int} (ha : EJ c rs ms ta AnyI) (hb : EJ c rs ms tb AnyI) : EJ c rs ms (tOp (rI0 fun i j => .int (g i j)) ta tb) AnyI := e_opN0 ha hb fun _ _ _ _ => trivial
theorem e_cmpN {g : Int → Int → Bool} {φ ψ : Int → Prop} (ha : EJ c rs ms ta (InR φ)) (hb : EJ c rs ms tb (InR ψ)) : EJ c rs ms (tOp (rI0 fun i j => .bl (g i j)) ta tb) AnyB :=
  e_op ha hb fun x y H ⟨i, _, hx⟩ ⟨j, _, hy⟩ Q q => ⟨i, j, hx, hy, q _ H (Kp.refl _ _) ⟨_, trivial, rfl⟩⟩
theorem e_intN {φ : Int → Prop} (h : EJ c rs ms te (InR φ)) : EJ c rs ms (tCB rInt1 (tCons te tNil)) (InR φ) :=
  e_cb (a_cons h a_nil) fun vs H p Q q => by
    obtain ⟨v, rfl, i, hi, h⟩ := ps1 p
    exact .inl ⟨i, by rw [show v = .int i from h], q _ H (Kp.refl _ _) ⟨i, hi, rfl⟩⟩
theorem e_intBN (h : EJ c rs ms te AnyB) : EJ c rs ms (tCB rInt1 (tCons te tNil)) (InR (fun i => i = 0 ∨ i = 1)) :=
  e_cb (a_cons h a_nil) fun vs H p Q q => by
    obtain ⟨v, rfl, i, _, h⟩ := ps1 p
    exact .inr ⟨i, by rw [show v = .bl i from h], q _ H (Kp.refl _ _) ⟨_, by cases i <;> simp, rfl⟩⟩
theorem e_absN {φ : Int → Prop} (h : EJ c rs ms te (InR φ)) : EJ c rs ms (tCB rAbsI (tCons te tNil)) (InR (fun i => 0 ≤ i)) :=
  e_cb (a_cons h a_nil) fun vs H p Q q => by
    obtain ⟨v, rfl, i, _, h⟩ := ps1 p
    exact ⟨i, by rw [show v = .int i from h], q _ H (Kp.refl _ _) ⟨_, by split <;> omega, rfl⟩⟩
theorem e_eqN {φ ψ : Int → Prop} (ha : EJ c rs ms ta (InR φ)) (hb : EJ c rs ms tb (InR ψ)) : EJ c rs ms (tOp rEq ta tb) AnyB :=
  e_op ha hb fun x y H ⟨i, _, hx⟩ ⟨j, _, hy⟩ Q q => by
    cases (show x = .int i from hx); cases (show y = .int j from hy)
    exact ⟨rfl, q _ H (Kp.refl _ _) ⟨_, trivial, rfl⟩⟩
/-- a test whose outcome is not told -/
def UJ (c : Ct) (rs : List (Option Rl)) (ms : Ms) (tt : TT) : Prop := ∀ σ H, At c rs ms σ H → ∀ Q : Bool → Hp → Prop, (∀ b H', At c rs ms σ H' → Kp (ads ms) H H' → Q b H') → tt σ H Q
theorem u_test (h : EJ c rs ms te AnyB) : UJ c rs ms (tTest te) := fun σ H a Q q => h σ H a _ fun v H1 a1 k1 ⟨b, _, p1⟩ => ⟨b, p1, q b H1 a1 k1⟩
theorem u_b (h : EJ c rs ms te AnyB) : UJ c rs ms (tB te) := fun σ H a Q q => h σ H a _ fun v H1 a1 k1 ⟨b, _, p1⟩ => ⟨b, p1, q b H1 a1 k1⟩
theorem TJ.u {b : Bool} (h : TJ c rs ms tt b) : UJ c rs ms tt := fun σ H a Q q => h σ H a _ fun H1 a1 k1 => q b H1 a1 k1
theorem u_and {tu : TT} (h1 : UJ c rs ms tt) (h2 : UJ c rs ms tu) : UJ c rs ms (tAnd tt tu) := fun σ H e Q q => h1 σ H e _ fun b H1 e1 k1 => by
  cases b with
  | true => exact h2 σ H1 e1 Q fun b H2 e2 k2 => q b H2 e2 (k1.trans k2)
  | false => exact q _ H1 e1 k1
theorem e_ifU (h : UJ c rs ms tt) (h1 : EJ c rs ms ta R) (h2 : EJ c rs ms tb R) : EJ c rs ms (tIf tt ta tb) R := fun σ H e Q q => h σ H e _ fun b H1 e1 k1 => by
  cases b with
  | true => exact h1 σ H1 e1 Q fun v H2 e2 k2 p => q v H2 e2 (k1.trans k2) p
  | false => exact h2 σ H1 e1 Q fun v H2 e2 k2 p => q v H2 e2 (k1.trans k2) p
theorem w_ifU {nx : L2.St → Hp → Prop} {rt : VK} {bk ct : L2.St → Hp → Prop} {t u : TS} (a : At c rs ms σ H) (h : UJ c rs ms tt) (h1 : ∀ H', At c rs ms σ H' → t ⟨nx, rt, bk, ct⟩ σ H') (h2 : ∀ H', At c rs ms σ H' → u ⟨nx, rt, bk, ct⟩ σ H') : tIfS tt t u ⟨nx, rt, bk, ct⟩ σ H :=
  h σ H a _ fun b H1 a1 _ => by
    cases b with
    | true => exact h1 H1 a1
    | false => exact h2 H1 a1
theorem e_mulL {i : Int} {φ : Int → Prop} (hi : -(2 ^ 64) < i ∧ i < 2 ^ 64) (hb : EJ c rs ms tb (InR φ)) : EJ c rs ms (tOp rMulI (tC (.int i)) tb) AnyI :=
  e_opN (φ := (· = i)) (χ := fun _ => True) (EJ.one e_c) hb fun x y e _ => ⟨.inl (by subst e; exact hi), trivial⟩
theorem e_mulR {i : Int} {φ : Int → Prop} (hi : -(2 ^ 64) < i ∧ i < 2 ^ 64) (hb : EJ c rs ms tb (InR φ)) : EJ c rs ms (tOp rMulI tb (tC (.int i))) AnyI :=
  e_opN (ψ := (· = i)) (χ := fun _ => True) hb (EJ.one e_c) fun x y _ e => ⟨.inr (by subst e; exact hi), trivial⟩
theorem e_modN {n : Int} {φ : Int → Prop} (hn : 0 < n) (ha : EJ c rs ms ta (InR φ)) (hb : EJ c rs ms tb (IsI n)) : EJ c rs ms (tOp rModI ta tb) (InR (fun r => 0 ≤ r ∧ r < n)) :=
  e_opN (ψ := (· = n)) ha (EJ.one hb) fun x y _ e => by
    subst e
    exact ⟨hn, Int.emod_nonneg _ (by omega), Int.emod_lt_of_pos _ (by omega)⟩
/-- the dice's cells -/
theorem e_dice {d : Addr} {i : Int} (hm : (d, Dice) ∈ ms) (h : EJ c rs ms ta (IsV (.ref d))) (hi : EJ c rs ms tb (IsI i)) (h0 : 0 ≤ i) (h3 : i < 3) : EJ c rs ms (tOp (rIxL K) ta tb) AnyI :=
  e_ixL (χ := fun _ => True) hm h hi h0 fun xs ⟨x, y, z, e⟩ => by
    have c : i = 0 ∨ i = 1 ∨ i = 2 := by omega
    subst e
    rcases c with rfl | rfl | rfl
    · exact ⟨_, rfl, fun H => ⟨x, trivial, rfl⟩⟩
    · exact ⟨_, rfl, fun H => ⟨y, trivial, rfl⟩⟩
    · exact ⟨_, rfl, fun H => ⟨z, trivial, rfl⟩⟩
theorem e_diceC {d : Addr} {i : Int} (hm : (d, Dice) ∈ ms) (h : EJ c rs ms ta (IsV (.ref d))) (h0 : 0 ≤ i ∧ i < 3) : EJ c rs ms (tOp (rIxL K) ta (tC (.int i))) AnyI := e_dice hm h e_c h0.1 h0.2
theorem w_dice {nx : L2.St → Hp → Prop} {rt : VK} {bk ct : L2.St → Hp → Prop} {ti : TE} {d : Addr} {i : Int} (a : At c rs [(d, Dice)] σ H) (h : EJ c rs [(d, Dice)] te AnyI) (ho : EJ c rs [(d, Dice)] ta (IsV (.ref d))) (hi : EJ c rs [(d, Dice)] ti (IsI i)) (h0 : 0 ≤ i) (h3 : i < 3)
    (k : ∀ H', At c rs [(d, Dice)] σ H' → nx σ H') : tAsg te (gSub ta ti rSetL) ⟨nx, rt, bk, ct⟩ σ H :=
  w_sub (ms1 := []) (ms2 := []) (φ := Dice) (ψ := Dice) (R := AnyI) a h ho hi h0 (fun xs v H ⟨x, y, z, e⟩ ⟨n, _, hn⟩ => by
    have c : i = 0 ∨ i = 1 ∨ i = 2 := by omega
    subst e
    cases (show v = .int n from hn)
    refine ⟨by show i < ((3 : Nat) : Int); omega, ?_⟩
    rcases c with rfl | rfl | rfl
    · exact ⟨n, y, z, rfl⟩
    · exact ⟨x, n, z, rfl⟩
    · exact ⟨x, y, n, rfl⟩) k
theorem wk_nil : Wk [] [] := trivial
theorem wk_none {x : Option Rl} {a b : List (Option Rl)} (h : Wk a b) : Wk (x :: a) (none :: b) := by cases x <;> exact h
theorem wk_some {r s : Rl} {a b : List (Option Rl)} (h1 : ∀ v H, r.p v H → s.p v H) (h : Wk a b) : Wk (some r :: a) (some s :: b) := ⟨h1, h⟩
theorem w_par {i j : Nat} {R S : Rl} {nx : L2.St → Hp → Prop} {rt : VK} {bk ct : L2.St → Hp → Prop} (a : At c rs ms σ H) (h : AJ c rs ms tr [R, S]) (k : ∀ σ' H', At c ((rs.set i (some R)).set j (some S)) ms σ' H' → nx σ' H') : tPar i j tr ⟨nx, rt, bk, ct⟩ σ H :=
  h σ H a _ fun vs H1 a1 _ p => by
    obtain ⟨v, w, rfl, p1, p2⟩ := ps2 p
    exact ⟨v, w, rfl, k _ _ ((a1.set p1).set p2)⟩
theorem ps3 {R S T : Rl} {vs : List V} {H : Hp} (h : Ps [R, S, T] vs H) : ∃ v w u, vs = [v, w, u] ∧ R.p v H ∧ S.p w H ∧ T.p u H := by
  match vs, h with
  | [v, w, u], h => exact ⟨v, w, u, rfl, h.1, h.2.1, h.2.2.1⟩
theorem w_par3 {i j l : Nat} {R S T : Rl} {nx : L2.St → Hp → Prop} {rt : VK} {bk ct : L2.St → Hp → Prop} (a : At c rs ms σ H) (h : AJ c rs ms tr [R, S, T]) (k : ∀ σ' H', At c (((rs.set i (some R)).set j (some S)).set l (some T)) ms σ' H' → nx σ' H') : tPar3 i j l tr ⟨nx, rt, bk, ct⟩ σ H :=
  h σ H a _ fun vs H1 a1 _ p => by
    obtain ⟨v, w, u, rfl, p1, p2, p3⟩ := ps3 p
    exact ⟨v, w, u, rfl, k _ _ (((a1.set p1).set p2).set p3)⟩
end
end K45
namespace K45
open PySem PySem.Spec PyProof.Rows L2
/-- a list at p whose items are ws -/
def LsR (p : Addr) (ws : List V) (Rs : List Rl) : Rl := ⟨fun v H => v = .ref p ∧ Ps Rs ws H, fun i h => ⟨h.1, h.2.mono i⟩⟩
def gPs (ws : List V) (Rs : List Rl) : Gh := ⟨Ps Rs ws, fun i h => h.mono i⟩
section
variable {c : Ct} {rs : List (Option Rl)} {ms : Ms} {σ : L2.St} {H H' : Hp} {K : PySem.W.Frag} {R Ra Rb Rc : Rl} {te ta tb : TE} {tt : TT} {tr : TA} {Rs Ws Rs' : List Rl} {E : XK}
theorem ls_int {p : Addr} {ns : List Int} (h : EJ c rs ms te (IsV (.ref p))) : EJ c rs ms te (LsR p (ns.map V.int) (ns.map IsI)) := h.weak fun v H e => ⟨e, ps_ints.mpr rfl⟩
theorem IW.wk {J : It} {n : Nat} {Y Z : Nat → Rl} {g : Gh} {gm : Ms} (w : IW J n Y g gm) (h : ∀ i v H, i < n → (Y i).p v H → (Z i).p v H) : IW J n Z g gm :=
  ⟨w.go, w.stop, fun i H x H' hi a b y => ⟨(w.yld i H x H' hi a b y).1, h i x H' hi (w.yld i H x H' hi a b y).2⟩⟩
theorem IJ.wk {wi : L2.TI} {n : Nat} {Y Z : Nat → Rl} {gm : Ms} (h : IJ c rs ms wi n Y gm) (w : ∀ i v H, i < n → (Y i).p v H → (Z i).p v H) : IJ c rs ms wi n Z gm :=
  fun σ H a T t => h σ H a T fun J H1 g a1 k1 hg iw => t J H1 g a1 k1 hg (iw.wk w)
theorem gd_int {ns : List Int} {i : Nat} {v : V} {H : Hp} (hi : i < ns.length) (h : (((ns.map IsI)[i]?).getD (IsV .non)).p v H) : (IsI (co ns i)).p v H := by
  rw [List.getElem?_map, co_get? hi] at h
  exact h
/-- over a list -/
theorem ij_listR {p : Addr} {ws : List V} (hm : (p, (· = ws)) ∈ ms) (h : EJ c rs ms te (LsR p ws Rs)) : IJ c rs ms (iList K te) Rs.length (fun i => (Rs[i]?).getD (IsV .non)) [(p, (· = ws))] := fun σ H a T t =>
  h σ H a _ fun v H1 a1 k1 p1 => by
    obtain ⟨rfl, hp⟩ := p1
    have hl := hp.len
    obtain ⟨xs, e1, e2⟩ := a1.me _ hm
    cases (show xs = ws from e1)
    refine ⟨p, rfl, ⟨_, SqL.of e2⟩, t _ H1 (gPs ws Rs) a1 k1 hp ⟨fun i H hi g m => ?_, fun H g m => ?_, fun i H x H' hi g m y => ?_⟩⟩
    · obtain ⟨ys, f1, f2⟩ := m _ List.mem_cons_self
      cases (show ys = ws from f1)
      exact ⟨ws, ws[i]'(by omega), SqL.of f2, by simp [hl, hi]⟩
    · obtain ⟨ys, f1, f2⟩ := m _ List.mem_cons_self
      cases (show ys = ws from f1)
      exact ⟨ws, SqL.of f2, by omega⟩
    · obtain ⟨e3, e4⟩ := y
      subst e3
      obtain ⟨ys, f1, f2⟩ := m _ List.mem_cons_self
      cases (show ys = ws from f1)
      refine ⟨Kp.refl _ _, ?_⟩
      obtain ⟨w, e5, e6⟩ := (show Ps Rs ws H' from g).get (i := i) (r := Rs[i]) (by simp [hi])
      have e7 := e4 ws (SqL.of f2)
      rw [e5] at e7
      have e8 : w = x := Option.some.inj e7
      rw [← e8]
      simp [hi]; exact e6
theorem ij_listI {p : Addr} {ns : List Int} (hm : (p, (· = ns.map V.int)) ∈ ms) (h : EJ c rs ms te (IsV (.ref p))) : IJ c rs ms (iList K te) ns.length (fun i => IsI (co ns i)) [(p, (· = ns.map V.int))] := by
  have := ij_listR (K := K) hm (ls_int h)
  rw [List.length_map] at this
  exact this.wk fun i v H hi q => gd_int hi q
/-- enumerate over a tuple -/
theorem ij_enumR (h : EJ c rs ms te (TuR K Rs)) : IJ c rs ms (iEnumT K (tCons te tNil)) Rs.length (fun i => TuR K [IsI (i : Int), (Rs[i]?).getD (IsV .non)]) [] := fun σ H a T t =>
  (a_cons h a_nil) σ H a _ fun vs H1 a1 k1 p1 => by
    obtain ⟨v, rfl, b, xs, rfl, hs, hp⟩ := ps1 p1
    have hl := hp.len
    refine ⟨b, xs, rfl, hs, t _ H1 (gTupR K b xs Rs) a1 k1 ⟨hs, hp⟩ ⟨fun i H hi g _ => ⟨xs, xs[i]'(by omega), g.1, by simp [hl, hi]⟩, fun H g _ => ⟨xs, g.1, by omega⟩, fun i H x H' hi g _ y => ?_⟩⟩
    obtain ⟨p, z, rfl, hp0, rfl, f1⟩ := y
    have hx := f1 xs g.1
    obtain ⟨w, e3, e4⟩ := g.2.get (i := i) (r := Rs[i]) (by simp [hi])
    rw [e3] at hx
    have e6 : w = z := Option.some.inj hx
    subst e6
    refine ⟨Kp.new hp0, p, [.int (i : Nat), w], rfl, SqT.of upd_same, rfl, ?_, trivial⟩
    simp [hi]; exact Rs[i].mono (Kp.new hp0).im0 e4
theorem tur_wk {Rs Ss : List Rl} {v : V} {H : Hp} (h : (TuR K Rs).p v H) (w : ∀ vs, Ps Rs vs H → Ps Ss vs H) : (TuR K Ss).p v H := by
  obtain ⟨a, xs, e, hs, hp⟩ := h
  exact ⟨a, xs, e, hs, w _ hp⟩
theorem pair_wk {R S S' : Rl} {v : V} {H : Hp} (h : (TuR K [R, S]).p v H) (w : ∀ u, S.p u H → S'.p u H) : (TuR K [R, S']).p v H :=
  tur_wk h fun vs p => by
    obtain ⟨x, y, rfl, p1, p2⟩ := ps2 p
    exact ⟨p1, w _ p2, trivial⟩
theorem ti_tr {ns : List Int} (h : EJ c rs ms te (TuI K ns)) : EJ c rs ms te (TuR K (ns.map IsI)) := h.weak fun v H p => tr_ti.mpr p
theorem ij_enumI {ns : List Int} (h : EJ c rs ms te (TuI K ns)) : IJ c rs ms (iEnumT K (tCons te tNil)) ns.length (fun i => TuR K [IsI (i : Int), IsI (co ns i)]) [] := by
  have := ij_enumR (K := K) (ti_tr h)
  rw [List.length_map] at this
  exact this.wk fun i v H hi q => pair_wk q fun u p => gd_int hi p
/-- enumerate over a list -/
theorem ij_enumLR {p : Addr} {ws : List V} (hm : (p, (· = ws)) ∈ ms) (h : EJ c rs ms te (LsR p ws Rs)) : IJ c rs ms (iEnum K (tCons te tNil)) Rs.length (fun i => TuR K [IsI (i : Int), (Rs[i]?).getD (IsV .non)]) [(p, (· = ws))] := fun σ H a T t =>
  (a_cons h a_nil) σ H a _ fun vs H1 a1 k1 p1 => by
    obtain ⟨v, rfl, rfl, hp⟩ := ps1 p1
    have hl := hp.len
    obtain ⟨xs, e1, e2⟩ := a1.me _ hm
    cases (show xs = ws from e1)
    refine ⟨p, _, rfl, SqL.of e2, t _ H1 (gPs ws Rs) a1 k1 hp ⟨fun i H hi g m => ?_, fun H g m => ?_, fun i H x H' hi g m y => ?_⟩⟩
    · obtain ⟨ys, f1, f2⟩ := m _ List.mem_cons_self
      cases (show ys = ws from f1)
      exact ⟨ws, ws[i]'(by omega), SqL.of f2, by simp [hl, hi]⟩
    · obtain ⟨ys, f1, f2⟩ := m _ List.mem_cons_self
      cases (show ys = ws from f1)
      exact ⟨ws, SqL.of f2, by omega⟩
    · obtain ⟨q, z, rfl, hp0, rfl, e4⟩ := y
      obtain ⟨ys, f1, f2⟩ := m _ List.mem_cons_self
      cases (show ys = ws from f1)
      obtain ⟨w, e5, e6⟩ := (show Ps Rs ws H from g).get (i := i) (r := Rs[i]) (by simp [hi])
      have e7 := e4 ws (SqL.of f2)
      rw [e5] at e7
      have e8 : w = z := Option.some.inj e7
      subst e8
      refine ⟨Kp.new hp0, q, [.int (i : Nat), w], rfl, SqT.of upd_same, rfl, ?_, trivial⟩
      simp [hi]; exact Rs[i].mono (Kp.new hp0).im0 e6
theorem ij_enumL {p : Addr} {ns : List Int} (hm : (p, (· = ns.map V.int)) ∈ ms) (h : EJ c rs ms te (IsV (.ref p))) : IJ c rs ms (iEnum K (tCons te tNil)) ns.length (fun i => TuR K [IsI (i : Int), IsI (co ns i)]) [(p, (· = ns.map V.int))] := by
  have := ij_enumLR (K := K) hm (ls_int h)
  rw [List.length_map] at this
  exact this.wk fun i v H hi q => pair_wk q fun u p => gd_int hi p
/-- zip of a list and a tuple -/
theorem ij_zipM {p : Addr} {xs ys : List Int} {tr : TA} (hm : (p, (· = xs.map V.int)) ∈ ms) (h : AJ c rs ms tr [IsV (.ref p), TuI K ys]) (hn : xs.length = ys.length) : IJ c rs ms (iZipM K tr) ys.length (fun i => TuR K [IsI (co xs i), IsI (co ys i)]) [(p, (· = xs.map V.int))] := fun σ H a T t =>
  h σ H a _ fun vs H1 a1 k1 p1 => by
    obtain ⟨v, w, rfl, e0, ⟨d, rfl, hd⟩⟩ := ps2 p1
    cases (show v = .ref p from e0)
    obtain ⟨zs, e1, e2⟩ := a1.me _ hm
    cases (show zs = xs.map V.int from e1)
    refine ⟨p, d, _, _, rfl, SqL.of e2, hd, t _ H1 (gTup K d (ys.map V.int)) a1 k1 hd ⟨fun i H hi g m => ?_, fun H g m => ?_, fun i H x H' hi g m y => ?_⟩⟩
    · obtain ⟨zs, f1, f2⟩ := m _ List.mem_cons_self
      cases (show zs = xs.map V.int from f1)
      exact ⟨_, _, .int (co xs i), .int (co ys i), SqL.of f2, g, by rw [List.getElem?_map, co_get? (by omega)]; rfl, by rw [List.getElem?_map, co_get? hi]; rfl⟩
    · obtain ⟨zs, f1, f2⟩ := m _ List.mem_cons_self
      cases (show zs = xs.map V.int from f1)
      exact ⟨_, _, SqL.of f2, g, by simp; omega⟩
    · obtain ⟨zs, f1, f2⟩ := m _ List.mem_cons_self
      cases (show zs = xs.map V.int from f1)
      obtain ⟨q, x1, x2, rfl, hp, rfl, f3, f4⟩ := y
      have e3 := f3 _ (SqL.of f2)
      have e4 := f4 _ g
      rw [List.getElem?_map, co_get? (by omega)] at e3
      rw [List.getElem?_map, co_get? hi] at e4
      refine ⟨Kp.new hp, q, [x1, x2], rfl, SqT.of upd_same, ?_, ?_, trivial⟩
      · exact (Option.some.inj e3).symm
      · exact (Option.some.inj e4).symm
/-- zip of two lists -/
theorem ij_zipL {p d : Addr} {xs ys : List Int} {tr : TA} (hm : (p, (· = xs.map V.int)) ∈ ms) (hm2 : (d, (· = ys.map V.int)) ∈ ms) (h : AJ c rs ms tr [IsV (.ref p), IsV (.ref d)]) (hn : xs.length = ys.length) :
    IJ c rs ms (RZ.iZipA K tr) ys.length (fun i => TuR K [IsI (co xs i), IsI (co ys i)]) [(p, (· = xs.map V.int)), (d, (· = ys.map V.int))] := fun σ H a T t =>
  h σ H a _ fun vs H1 a1 k1 p1 => by
    obtain ⟨v, w, rfl, e0, e0'⟩ := ps2 p1
    cases (show v = .ref p from e0)
    cases (show w = .ref d from e0')
    obtain ⟨zs, e1, e2⟩ := a1.me _ hm
    cases (show zs = xs.map V.int from e1)
    obtain ⟨zs, e1', e2'⟩ := a1.me _ hm2
    cases (show zs = ys.map V.int from e1')
    refine ⟨p, d, _, _, rfl, .inl ⟨SqL.of e2, SqL.of e2', t _ H1 gT a1 k1 trivial ⟨fun i H hi g m => ?_, fun H g m => ?_, fun i H x H' hi g m y => ?_⟩⟩⟩
    all_goals
      obtain ⟨zs, f1, f2⟩ := m _ List.mem_cons_self
      cases (show zs = xs.map V.int from f1)
      obtain ⟨zs, f1', f2'⟩ := m _ (List.mem_cons_of_mem _ List.mem_cons_self)
      cases (show zs = ys.map V.int from f1')
    · exact ⟨_, _, .int (co xs i), .int (co ys i), SqL.of f2, SqL.of f2', by rw [List.getElem?_map, co_get? (by omega)]; rfl, by rw [List.getElem?_map, co_get? hi]; rfl⟩
    · exact ⟨_, _, SqL.of f2, SqL.of f2', by simp⟩
    · obtain ⟨q, x1, x2, rfl, hp, rfl, f3, f4⟩ := y
      have e3 := f3 _ (SqL.of f2)
      have e4 := f4 _ (SqL.of f2')
      rw [List.getElem?_map, co_get? (by omega)] at e3
      rw [List.getElem?_map, co_get? hi] at e4
      refine ⟨Kp.new hp, q, [x1, x2], rfl, SqT.of upd_same, ?_, ?_, trivial⟩
      · exact (Option.some.inj e3).symm
      · exact (Option.some.inj e4).symm
/-- a list of ints at p -/
theorem e_ixX {p : Addr} {ns : List Int} {i : Int} (hm : (p, (· = ns.map V.int)) ∈ ms) (h : EJ c rs ms ta (IsV (.ref p))) (hi : EJ c rs ms tb (IsI i)) (h0 : 0 ≤ i) (hx : i.toNat < ns.length) : EJ c rs ms (tOp (rIxL K) ta tb) (IsI (co ns i.toNat)) :=
  e_ixL (χ := fun _ => True) hm h hi h0 fun xs e => by
    cases (show xs = ns.map V.int from e)
    exact ⟨_, by rw [List.getElem?_map, co_get? hx]; rfl, fun H => rfl⟩
theorem e_lenX {p : Addr} {ns : List Int} (hm : (p, (· = ns.map V.int)) ∈ ms) (h : EJ c rs ms te (IsV (.ref p))) : EJ c rs ms (tCB (rLen K) (tCons te tNil)) (IsI (ns.length : Int)) :=
  e_lenL hm h fun xs e => by rw [show xs = ns.map V.int from e, List.length_map]
theorem map_set_int {ns : List Int} {i : Nat} {x : Int} : (ns.map V.int).set i (.int x) = (ns.set i x).map V.int := by rw [List.map_set]
theorem w_subX {p : Addr} {ns : List Int} {j x : Int} {ti : TE} {ms2 : Ms} {nx : L2.St → Hp → Prop} {rt : VK} {bk ct : L2.St → Hp → Prop} (a : At c rs ((p, (· = ns.map V.int)) :: ms2) σ H) (h : EJ c rs ((p, (· = ns.map V.int)) :: ms2) te (IsI x)) (ho : EJ c rs ((p, (· = ns.map V.int)) :: ms2) ta (IsV (.ref p))) (hi : EJ c rs ((p, (· = ns.map V.int)) :: ms2) ti (IsI j))
    (h0 : 0 ≤ j) (hl : j.toNat < ns.length) (k : ∀ H', At c rs ((p, (· = (ns.set j.toNat x).map V.int)) :: ms2) σ H' → nx σ H') : tAsg te (gSub ta ti rSetL) ⟨nx, rt, bk, ct⟩ σ H :=
  w_sub (ms1 := []) (ms2 := ms2) (φ := (· = ns.map V.int)) (ψ := (· = (ns.set j.toNat x).map V.int)) a h ho hi h0 (fun xs v H e ev => by
    cases (show xs = ns.map V.int from e)
    cases (show v = .int x from ev)
    exact ⟨by simp; omega, map_set_int⟩) k
/-- the tuple of a list's items -/
theorem e_tupX {p : Addr} {ns : List Int} (hm : (p, (· = ns.map V.int)) ∈ ms) (h : EJ c rs ms te (IsV (.ref p))) : EJ c rs ms (tCB (rTupOf K) (tCons te tNil)) (TuI K ns) := fun σ H a Q q =>
  h σ H a _ fun v H1 a1 k1 e => by
    cases (show v = .ref p from e)
    obtain ⟨xs, e1, e2⟩ := a1.me _ hm
    cases (show xs = ns.map V.int from e1)
    exact ⟨p, _, rfl, .inl ⟨SqL.of e2, fun l hl => q _ _ (a1.grow (Kp.new hl)) (k1.trans (Kp.new hl).any) ⟨l, rfl, SqT.of upd_same⟩⟩⟩
theorem el_lcI0 {wi : L2.TI} {g : TG} {vs : List Nat} {n : Nat} {Y : Nat → Rl} {rs' : Nat → List (Option Rl)} {f : Nat → Int} {ns : List Int} (hi : IJ c rs ms wi n Y []) (hn : n ≤ 1000)
    (hg : ∀ i, i < n → ∀ (c : Ct) (ms : Ms), GJ c (wipeR rs vs) ms g (Y i) vs (rs' i))
    (he : ∀ i, i < n → ∀ (x : Gh) (D : Addr) (acc : List V), EJ (c.add x) (rs' i) ((D, (· = acc)) :: ms) te (IsI (f i))) (e : ns = tab n f) : EL c rs ms (tLc wi g tYes te vs) (ns.map IsI) :=
  el_lcI hi (fun m hm => by cases hm) (fun i hi => hi) hn hg he e
theorem el_lc0 {wi : L2.TI} {g : TG} {vs : List Nat} {n : Nat} {Y F : Nat → Rl} {rs' : Nat → List (Option Rl)} (hi : IJ c rs ms wi n Y []) (hn : n ≤ 1000)
    (hg : ∀ i, i < n → ∀ (c : Ct) (ms : Ms), GJ c (wipeR rs vs) ms g (Y i) vs (rs' i))
    (he : ∀ i, i < n → ∀ (x : Gh) (D : Addr) (acc : List V), EJ (c.add x) (rs' i) ((D, (· = acc)) :: ms) te (F i)) : EL c rs ms (tLc wi g tYes te vs) ((List.range n).map F) :=
  el_lc hi (fun m hm => by cases hm) (fun i hi => hi) hn hg he
theorem ij_rngN {n : Int} {m : Nat} {tr : TA} (h : AJ c rs ms tr [IsI n]) (e : n = (m : Int)) (hn : m ≤ 1000) : IJ c rs ms (iRng1 tr) m (fun i => IsI (i : Int)) [] := by
  have := ij_rng h (by omega)
  rw [e] at this
  exact this
end
end K45
namespace K45
open PySem PySem.Spec PyProof.Rows L2
section
variable {c : Ct} {rs : List (Option Rl)} {ms : Ms} {σ : L2.St} {H H' : Hp} {K : PySem.W.Frag} {R Ra Rb Rc : Rl} {te ta tb : TE} {tt : TT} {tr : TA} {Rs Ws Rs' : List Rl} {E : XK}
/-- a comprehension with a test -/
theorem el_lcF {wi : L2.TI} {g : TG} {vs : List Nat} {n : Nat} {Y F : Nat → Rl} {gm : Ms} {rs' : Nat → List (Option Rl)} {bs : Nat → Bool} (hi : IJ c rs ms wi n Y gm) (hgm : ∀ m ∈ gm, m ∈ ms) (hn : n ≤ 1000)
    (hg : ∀ i, i < n → ∀ (c : Ct) (ms : Ms), GJ c (wipeR rs vs) ms g (Y i) vs (rs' i))
    (ht : ∀ i, i < n → ∀ (x : Gh) (D : Addr) (acc : List V), TJ (c.add x) (rs' i) ((D, (· = acc)) :: ms) tt (bs i))
    (he : ∀ i, i < n → ∀ (x : Gh) (D : Addr) (acc : List V), EJ (c.add x) (rs' i) ((D, (· = acc)) :: ms) te (F i)) : EL c rs ms (tLc wi g tt te vs) (((List.range n).filter bs).map F) := fun σ H a Q q =>
  hi σ H a _ fun J H1 gg a1 k1 hgg w => fun D hD => by
    let Fl : Nat → List Rl := fun i => ((List.range i).filter bs).map F
    let Pv : Nat → Hp → Prop := fun i H' => ∃ acc, At (c.add gg) rs ((D, (· = acc)) :: ms) σ H' ∧ Kp (ads ms) H1 (del H' D) ∧ Ps (Fl i) acc (del H' D) ∧ acc.length ≤ i ∧ At c rs ms σ (del H' D)
    refine ⟨fun i m H' => m = n - i ∧ i ≤ n ∧ Pv i H', ⟨n, by simp, Nat.zero_le _, [], ?_, ?_, trivial, Nat.le_refl _, ?_⟩, ?_⟩
    · exact At.add (H := upd H1 D (.lst [])) (p := D) (xs := []) (φ := (· = [])) (by rw [del_upd hD]; exact a1.ghost hgg) upd_same rfl
    · rw [del_upd hD]; exact Kp.refl _ _
    · rw [del_upd hD]; exact a1
    rintro i m H' ⟨rfl, hin, acc, b, kk, pp, hl, bd⟩
    have mm : Mems gm H' := b.me.sub fun m hm => List.mem_cons_of_mem _ (hgm m hm)
    obtain ⟨acc', e1, eD⟩ := b.me (D, (· = acc)) List.mem_cons_self
    cases (show acc' = acc from e1)
    by_cases hlt : i < n
    · refine .inr ⟨w.go i H' hlt b.the mm, fun H2 => Pv (i + 1) H2, fun H2 p2 => ⟨n - (i + 1), by omega, rfl, hlt, p2⟩, fun x H2 hy => ?_⟩
      obtain ⟨k2, y2⟩ := w.yld i H' x H2 hlt b.the mm hy
      have b2 := b.grow k2
      refine hg i hlt _ _ x _ H2 (b2.wipe vs) y2 _ fun σ2 b3 hw => ⟨(hw vs fun i hi => hi).trans wipe_wipe, ?_⟩
      refine ht i hlt gg D acc σ2 H2 b3 _ fun H3 b3' k3 => ?_
      have out : ∀ a o, del H' D a = some o → a ∉ ads ms → ∀ H4, Kp (ads ((D, (· = acc)) :: ms)) H2 H4 → St (del H4 D) a o := fun a o e n H4 k4 => by
        have ne : a ≠ D := fun z => by rw [z, del_same] at e; cases e
        rw [del_ne ne] at e
        refine (k2 a o e (by simp)).bind fun o2 f2 _ => (k4 a o2 f2 fun z => ?_).bind fun o3 f3 _ => St.of (by rw [del_ne ne]; exact f3)
        rcases List.mem_cons.mp z with z | z
        · exact ne z
        · exact n z
      have mdel : ∀ H4, Mems ((D, (· = acc)) :: ms) H4 → Mems ms (del H4 D) := fun H4 h4 m hm => by
        obtain ⟨xs, f1, f2⟩ := h4 m (List.mem_cons_of_mem _ hm)
        have ne : m.1 ≠ D := fun z => by
          have q := mem_ads hm
          rw [z] at q
          exact (List.nodup_cons.mp b2.nd).1 q
        exact ⟨xs, f1, by rw [del_ne ne]; exact f2⟩
      cases hb : bs i with
      | false =>
        rw [if_neg (by simp)]
        refine ⟨acc, b2.step k3 b3'.me rfl, fun a o e n => (kk a o e n).bind fun o' e' _ => out a o' e' n H3 k3, ?_, by omega, bd.step (fun a o e n => out a o e n H3 k3) (mdel H3 b3'.me) rfl⟩
        show Ps (((List.range (i + 1)).filter bs).map F) acc _
        rw [List.range_succ, List.filter_append]
        have : [i].filter bs = [] := by simp [hb]
        rw [this, List.append_nil]
        exact pp.mono (Kp.im (ms := ms) (fun a o e n => out a o e n H3 k3) bd.me)
      | true =>
        rw [if_pos rfl]
        refine he i hlt gg D acc σ2 H3 b3' _ fun y H4 b4 k4 p4 => ?_
        have k34 := k3.trans k4
        obtain ⟨acc4, e4, eD4⟩ := b4.me (D, (· = acc)) List.mem_cons_self
        cases (show acc4 = acc from e4)
        have du : del (upd H4 D (.lst (acc ++ [y]))) D = del H4 D := by
          funext z
          by_cases e : z = D
          · rw [e, del_same, del_same]
          · rw [del_ne e, del_ne e, upd_ne e]
        have iD : Im H4 (del H4 D) := fun a o e n => by
          have ne : a ≠ D := fun z => by rw [z, eD4] at e; exact n _ (Option.some.inj e).symm
          exact St.of (by rw [del_ne ne]; exact e)
        refine ⟨acc, eD4, small1000 (by omega), acc ++ [y], ?_, ?_, ?_, by simp; omega, ?_⟩
        · refine b2.step (fun a o e n => ?_) (fun m hm => ?_) rfl
          · have ne : a ≠ D := fun z => n (by rw [z]; exact List.mem_cons_self)
            exact (k34 a o e n).bind fun o' e' _ => St.of (by rw [upd_ne ne]; exact e')
          · rcases List.mem_cons.mp hm with z | z
            · rw [z]; exact ⟨acc ++ [y], rfl, upd_same⟩
            · obtain ⟨xs, f1, f2⟩ := mdel H4 b4.me m z
              have ne : m.1 ≠ D := fun w => by rw [w, del_same] at f2; cases f2
              exact ⟨xs, f1, by rw [upd_ne ne]; rw [del_ne ne] at f2; exact f2⟩
        · rw [du]
          exact fun a o e n => (kk a o e n).bind fun o' e' _ => out a o' e' n H4 k34
        · rw [du]
          show Ps (((List.range (i + 1)).filter bs).map F) (acc ++ [y]) _
          rw [List.range_succ, List.filter_append]
          have : [i].filter bs = [i] := by simp [hb]
          rw [this, List.map_append]
          exact ps_snoc (pp.mono (Kp.im (ms := ms) (fun a o e n => out a o e n H4 k34) bd.me)) ((F i).mono iD p4)
        · rw [du]
          exact bd.step (fun a o e n => out a o e n H4 k34) (mdel H4 b4.me) rfl
    · have e : i = n := by omega
      subst e
      refine .inl ⟨w.stop H' b.the mm, q D acc H' bd (k1.trans kk) eD pp⟩
/-- an item of a new list -/
theorem e_ixEL {i : Int} (h : EL c rs ms ta Rs) (h0 : 0 ≤ i) (hx : Rs[i.toNat]? = some R) : EJ c rs ms (tOp (rIxL K) ta (tC (.int i))) R := fun σ H a Q q =>
  h σ H a _ fun p xs H1 a1 k1 e1 p1 => by
    obtain ⟨v, e3, e4⟩ := p1.get hx
    exact ⟨p, xs, i, v, rfl, rfl, SqL.of e1, at_of h0 e3, q _ H1 (a1.back e1) (k1.trans (kp_del e1).any) (R.mono (kp_del e1).im0 e4)⟩
/-! ### calls with values that are not told -/
theorem e_callE {S : List Rl → Rl → Prop} (h : AJ c rs ms tr Rs) (hs : ∀ vs H, Ps Rs vs H → ∃ Rs' R', S Rs' R' ∧ Ps Rs' vs H ∧ ∀ v H', R'.p v H' → R.p v H') : EJ c rs ms (tCall (spP S) [] E tr) R := fun σ H a Q q =>
  h σ H a _ fun vs H1 a1 k1 p1 => by
    obtain ⟨Rs', R', s1, s2, s3⟩ := hs vs H1 p1
    exact ⟨Rs', R', s1, by rw [List.append_nil]; exact s2, fun v H2 k2 p2 => q v H2 (a1.grow k2) (k1.trans k2.any) (s3 _ _ p2)⟩
theorem e_callDE {S : List Rl → Rl → Prop} {d : Addr} (hd : (d, Dice) ∈ ms) (h : AJ c rs ms tr (IsV (.ref d) :: Rs)) (hs : ∀ vs H, Ps Rs vs H → ∃ Rs' R', S Rs' R' ∧ Ps Rs' vs H ∧ ∀ v H', R'.p v H' → R.p v H') : EJ c rs ms (tCall (spD S) [] E tr) R := fun σ H a Q q =>
  h σ H a _ fun vs H1 a1 k1 p1 => by
    match vs, p1 with
    | v :: ws, p1 =>
      obtain ⟨e, p1⟩ := p1
      cases (show v = .ref d from e)
      obtain ⟨Rs', R', s1, s2, s3⟩ := hs ws H1 p1
      refine ⟨d, ws, Rs', R', by rw [List.append_nil], s1, s2, a1.me _ hd, fun v H2 k2 m2 p2 => ?_⟩
      have k3 : Kp (ads ms) H1 H2 := fun x o hx n => k2 x o hx fun z => by
        have e : x = d := by simpa using z
        subst e; exact n (mem_ads hd)
      refine q v H2 (a1.step k3 (fun m hm => ?_) rfl) (k1.trans k3) (s3 _ _ p2)
      by_cases e : m.1 = d
      · have em : m = (d, Dice) := by
          have h1 : (ads ms).Nodup := a1.nd
          exact ms_uniq h1 hm hd e
        subst em
        exact m2
      · obtain ⟨xs, e1, e2⟩ := a1.me m hm
        exact ⟨xs, e1, k2 _ _ e2 (by simpa using e)⟩
/-- a new list of such items goes into a call -/
theorem e_callXR {S : List Rl → Xs → Rl → Prop} (h : EL c rs ms te Ws) (hs : ∀ p xs H, Ps Ws xs H → ∃ Rs' R', S [LsR p xs Rs'] [(p, xs)] R' ∧ Ps Rs' xs H ∧ ∀ v H', R'.p v H' → R.p v H') : EJ c rs ms (tCall (spX S) [] E (tCons te tNil)) R := fun σ H a Q q =>
  h σ H a _ fun p xs H1 a1 k1 e1 p1 => by
    obtain ⟨Rs', R', s1, s0, s2⟩ := hs p xs _ p1
    exact ⟨_, _, R', s1, ⟨⟨rfl, s0.mono (kp_del e1).im0⟩, trivial⟩, mems_exm.mpr fun x hx => by
      have : x = (p, xs) := by simpa using hx
      subst this; exact e1, by simp, fun v H2 k2 r2 => q v H2 ((a1.back e1).grow k2) (k1.trans ((kp_del e1).trans k2).any) (s2 _ _ r2)⟩
/-! ### tuples put together, told apart -/
theorem e_catT {xs ys : List Int} (ha : EJ c rs ms ta (TuI K xs)) (hb : EJ c rs ms tb (TuI K ys)) (h0 : xs ≠ []) (hl : xs.length + ys.length ≤ 1000) : EJ c rs ms (tOp (rCatT K) ta tb) (TuI K (xs ++ ys)) :=
  e_op ha hb fun x y H ⟨a, e1, h1⟩ ⟨b, e2, h2⟩ Q q => by
    subst e1 e2
    refine ⟨a, b, _, _, rfl, rfl, h1, h2, fun e => h0 (List.map_eq_nil_iff.mp e), Nat.le_of_lt (small1000 (by simp; omega)), fun e => ?_, fun _ p hp => ?_⟩
    · have : ys = [] := List.map_eq_nil_iff.mp e
      subst this
      exact q _ H (Kp.refl _ _) ⟨a, rfl, by rw [List.append_nil]; exact h1⟩
    · exact q _ _ (Kp.new hp) ⟨p, rfl, by rw [List.map_append]; exact SqT.of upd_same⟩
theorem dp_ints {H : Hp} : ∀ ns : List Int, DpAll K H (ns.map V.int) (ns.map PyData.int)
  | [] => .nil
  | n :: ns => .cons (.int n) (dp_ints ns)
theorem eqvAll_ints : ∀ xs ys : List Int, PyData.eqvAll (xs.map PyData.int) (ys.map PyData.int) = decide (xs = ys)
  | [], [] => by simp [PyData.eqvAll]
  | [], _ :: _ => by simp [PyData.eqvAll]
  | _ :: _, [] => by simp [PyData.eqvAll]
  | x :: xs, y :: ys => by
    simp only [List.map_cons, PyData.eqvAll, PyData.eqv, eqvAll_ints xs ys, List.cons.injEq]
    by_cases h : x = y <;> by_cases h2 : xs = ys <;> simp [h, h2]
theorem lay_ints : ∀ ns : List Int, PyData.canLayAll0 (ns.map PyData.int) = true ∧ PyData.depthAll (ns.map PyData.int) = 0
  | [] => ⟨rfl, rfl⟩
  | n :: ns => by
    obtain ⟨h1, h2⟩ := lay_ints ns
    refine ⟨?_, ?_⟩
    · show (true && PyData.canLayAll0 (ns.map PyData.int)) = true
      rw [h1]; rfl
    · show max 0 (PyData.depthAll (ns.map PyData.int)) = 0
      rw [h2]; rfl
theorem sh_tup (ns : List Int) : SeqAt.shaped (.tuple (ns.map PyData.int)) = true := by
  obtain ⟨h1, h2⟩ := lay_ints ns
  show (PyData.canLayAll0 (ns.map PyData.int) && decide (PyData.depthAll (ns.map PyData.int) + 1 ≤ 64)) = true
  rw [h1, h2]; rfl
theorem sh_lst (ns : List Int) : SeqAt.shaped (.list (ns.map PyData.int)) = true := by
  obtain ⟨h1, h2⟩ := lay_ints ns
  show (PyData.canLayAll0 (ns.map PyData.int) && decide (PyData.depthAll (ns.map PyData.int) + 1 ≤ 64)) = true
  rw [h1, h2]; rfl
theorem eqv_tup (xs ys : List Int) : PyData.eqv (.tuple (xs.map PyData.int)) (.tuple (ys.map PyData.int)) = decide (xs = ys) := by
  rw [PyData.eqv]; exact eqvAll_ints xs ys
theorem eqv_lst (xs ys : List Int) : PyData.eqv (.list (xs.map PyData.int)) (.list (ys.map PyData.int)) = decide (xs = ys) := by
  rw [PyData.eqv]; exact eqvAll_ints xs ys
theorem e_eqT {xs ys : List Int} (ha : EJ c rs ms ta (TuI K xs)) (hb : EJ c rs ms tb (TuI K ys)) : EJ c rs ms (tOp (rEqD K) ta tb) (IsB (decide (xs = ys))) :=
  e_op ha hb fun x y H ⟨a, e1, h1⟩ ⟨b, e2, h2⟩ Q q => by
    subst e1 e2
    refine ⟨_, _, .tup h1 (dp_ints xs), .tup h2 (dp_ints ys), sh_tup xs, sh_tup ys, q _ H (Kp.refl _ _) ?_⟩
    rw [eqv_tup]; rfl
theorem e_neT {xs ys : List Int} (ha : EJ c rs ms ta (TuI K xs)) (hb : EJ c rs ms tb (TuI K ys)) : EJ c rs ms (tOp (rNeD K) ta tb) (IsB (!decide (xs = ys))) :=
  e_op ha hb fun x y H ⟨a, e1, h1⟩ ⟨b, e2, h2⟩ Q q => by
    subst e1 e2
    refine ⟨_, _, .tup h1 (dp_ints xs), .tup h2 (dp_ints ys), sh_tup xs, sh_tup ys, q _ H (Kp.refl _ _) ?_⟩
    rw [eqv_tup]; rfl
/-- two new lists, both evaluated -/
theorem el_two {Q' : VK} {r : R2} (ha : EL c rs ms ta Rs) (hb : EL c rs ms tb Ws) (hr : ∀ p d xs ys H, H p = some (.lst xs) → H d = some (.lst ys) → (∃ H1, Ps Rs xs H1 ∧ Im H1 H) → (∃ H1, Ps Ws ys H1 ∧ Im H1 H) → ∀ Q : VK, (∀ v, R.p v H → Q v H) → r (.ref p) (.ref d) H Q) : EJ c rs ms (tOp r ta tb) R := fun σ H a Q q =>
  ha σ H a _ fun p xs H1 a1 k1 e1 p1 => hb σ H1 (a1.back e1) _ fun d ys H2 a2 k2 e2 p2 => by
    have e3 : del H2 d p = some (.lst xs) := k2 p _ e1 a1.out
    have ne : p ≠ d := fun z => by rw [z, del_same] at e3; cases e3
    have e4 : H2 p = some (.lst xs) := by rwa [del_ne ne] at e3
    have k3 : Kp [] (del H2 d) H2 := kp_del e2
    refine hr p d xs ys H2 e4 e2 ⟨_, p1, ?_⟩ ⟨_, p2, k3.im0⟩ Q fun v pv => q v H2 (a2.back e2) ((k1.trans (kp_del e1).any).trans (k2.trans k3.any)) pv
    exact ((kp_del e1).im0.trans (k2.im (a1.back e1).me)).trans k3.im0
theorem e_neLL {xs ys : List Int} (ha : EL c rs ms ta (xs.map IsI)) (hb : EL c rs ms tb (ys.map IsI)) : EJ c rs ms (tOp (rNeD K) ta tb) (IsB (!decide (xs = ys))) :=
  el_two (Q' := fun _ _ => True) ha hb fun p d us vs H e1 e2 ⟨_, h1, _⟩ ⟨_, h2, _⟩ Q q => by
    cases ps_ints.mp h1
    cases ps_ints.mp h2
    refine ⟨_, _, .lst (SqL.of e1) (dp_ints xs), .lst (SqL.of e2) (dp_ints ys), sh_lst xs, sh_lst ys, q _ ?_⟩
    rw [eqv_lst]; rfl
theorem e_eqLL {xs ys : List Int} (ha : EL c rs ms ta (xs.map IsI)) (hb : EL c rs ms tb (ys.map IsI)) : EJ c rs ms (tOp (rEqD K) ta tb) (IsB (decide (xs = ys))) :=
  el_two (Q' := fun _ _ => True) ha hb fun p d us vs H e1 e2 ⟨_, h1, _⟩ ⟨_, h2, _⟩ Q q => by
    cases ps_ints.mp h1
    cases ps_ints.mp h2
    refine ⟨_, _, .lst (SqL.of e1) (dp_ints xs), .lst (SqL.of e2) (dp_ints ys), sh_lst xs, sh_lst ys, q _ ?_⟩
    rw [eqv_lst]; rfl
/-- a list at p and a new list -/
theorem e_xl {r : R2} {p : Addr} {ws : List V} (hm : (p, (· = ws)) ∈ ms) (ha : EJ c rs ms ta (IsV (.ref p))) (hb : EL c rs ms tb Ws) (hr : ∀ d ys H, H p = some (.lst ws) → H d = some (.lst ys) → (∃ H1, Ps Ws ys H1 ∧ Im H1 H) → ∀ Q : VK, (∀ v, R.p v H → Q v H) → r (.ref p) (.ref d) H Q) : EJ c rs ms (tOp r ta tb) R := fun σ H a Q q =>
  ha σ H a _ fun v H1 a1 k1 e1 => hb σ H1 a1 _ fun d ys H2 a2 k2 e2 p2 => by
    cases (show v = .ref p from e1)
    obtain ⟨zs, f1, f2⟩ := (a2.back e2).me _ hm
    cases (show zs = ws from f1)
    exact hr d ys H2 f2 e2 ⟨_, p2, (kp_del e2).im0⟩ Q fun v pv => q v H2 (a2.back e2) (k1.trans (k2.trans (kp_del e2).any)) pv
theorem e_neXL {p : Addr} {xs ys : List Int} (hm : (p, (· = xs.map V.int)) ∈ ms) (ha : EJ c rs ms ta (IsV (.ref p))) (hb : EL c rs ms tb (ys.map IsI)) : EJ c rs ms (tOp (rNeD K) ta tb) (IsB (!decide (xs = ys))) :=
  e_xl hm ha hb fun d vs H e1 e2 ⟨_, h2, _⟩ Q q => by
    cases ps_ints.mp h2
    refine ⟨_, _, .lst (SqL.of e1) (dp_ints xs), .lst (SqL.of e2) (dp_ints ys), sh_lst xs, sh_lst ys, q _ ?_⟩
    rw [eqv_lst]; rfl
theorem e_eqXL {p : Addr} {xs ys : List Int} (hm : (p, (· = xs.map V.int)) ∈ ms) (ha : EJ c rs ms ta (IsV (.ref p))) (hb : EL c rs ms tb (ys.map IsI)) : EJ c rs ms (tOp (rEqD K) ta tb) (IsB (decide (xs = ys))) :=
  e_xl hm ha hb fun d vs H e1 e2 ⟨_, h2, _⟩ Q q => by
    cases ps_ints.mp h2
    refine ⟨_, _, .lst (SqL.of e1) (dp_ints xs), .lst (SqL.of e2) (dp_ints ys), sh_lst xs, sh_lst ys, q _ ?_⟩
    rw [eqv_lst]; rfl
theorem ps_inR {φ : Int → Prop} {H : Hp} : ∀ {n : Nat} {xs : List V}, Ps (List.replicate n (InR φ)) xs H → ∃ ns : List Int, xs = ns.map V.int ∧ ns.length = n ∧ ∀ x ∈ ns, φ x
  | 0, [], _ => ⟨[], rfl, rfl, fun x hx => by cases hx⟩
  | 0, _ :: _, h => h.elim
  | n + 1, [], h => by rw [List.replicate_succ] at h; exact h.elim
  | n + 1, v :: xs, h => by
    rw [List.replicate_succ] at h
    obtain ⟨⟨x, hx, e⟩, h2⟩ := h
    obtain ⟨ns, e1, e2, e3⟩ := ps_inR h2
    cases (show v = .int x from e)
    exact ⟨x :: ns, by rw [e1]; rfl, by simp [e2], fun y hy => by
      rcases List.mem_cons.mp hy with z | z
      · rw [z]; exact hx
      · exact e3 y z⟩
theorem range_const {R : Rl} (n : Nat) : (List.range n).map (fun _ => R) = List.replicate n R := by
  rw [List.map_const', List.length_range]
/-- a tuple of so many numbers -/
theorem tu_inR {φ : Int → Prop} {n : Nat} {v : V} {H : Hp} (h : (TuR K ((List.range n).map fun _ => InR φ)).p v H) : (AnyR (fun f : List Int => f.length = n ∧ ∀ x ∈ f, φ x) (TuI K)).p v H := by
  obtain ⟨a, xs, e, hs, hp⟩ := h
  rw [range_const] at hp
  obtain ⟨ns, e1, e2, e3⟩ := ps_inR hp
  exact ⟨ns, ⟨e2, e3⟩, a, e, e1 ▸ hs⟩
theorem At.openA {α : Type} {φ : α → Prop} {F : α → Rl} {i : Nat} (h : At c rs ms σ H) (e : rs[i]? = some (some (AnyR φ F))) : ∃ x, φ x ∧ At c (rs.set i (some (F x))) ms σ H := by
  obtain ⟨v, e1, x, hx, p⟩ := h.sl i _ e
  refine ⟨x, hx, ?_⟩
  have b := h.set (i := i) (r := F x) p
  have : σ.set i (some v) = σ := by
    apply List.ext_getElem?
    intro j
    by_cases ej : i = j
    · subst ej
      rw [e1]
      have hl : i < σ.length := by
        have := (List.getElem?_eq_some_iff.mp e1).1
        exact this
      rw [List.getElem?_set_self hl]
    · rw [List.getElem?_set_ne ej]
  rwa [this] at b
/-- two numbers -/
theorem ti2_any {φ ψ : Int → Prop} {v : V} {H : Hp} (h : (TuR K [InR φ, InR ψ]).p v H) : (AnyR (fun p : Int × Int => φ p.1 ∧ ψ p.2) (fun p => TuI K [p.1, p.2])).p v H := by
  obtain ⟨a, xs, e, hs, hp⟩ := h
  obtain ⟨x, y, rfl, ⟨i, hi, ei⟩, ⟨j, hj, ej⟩⟩ := ps2 hp
  cases (show x = .int i from ei)
  cases (show y = .int j from ej)
  exact ⟨(i, j), ⟨hi, hj⟩, a, e, hs⟩
theorem tr2_any {α β : Type} {φ : α → Prop} {ψ : β → Prop} {F : α → Rl} {G : β → Rl} {v : V} {H : Hp} (h : (TuR K [AnyR φ F, AnyR ψ G]).p v H) : (AnyR (fun p : α × β => φ p.1 ∧ ψ p.2) (fun p => TuR K [F p.1, G p.2])).p v H := by
  obtain ⟨a, xs, e, hs, hp⟩ := h
  obtain ⟨x, y, rfl, ⟨i, hi, ei⟩, ⟨j, hj, ej⟩⟩ := ps2 hp
  exact ⟨(i, j), ⟨hi, hj⟩, a, _, e, hs, ei, ej, trivial⟩
theorem ti2_tr {a b : Int} {v : V} {H : Hp} : (TuR K [IsI a, IsI b]).p v H ↔ (TuI K [a, b]).p v H := tr_ti (ns := [a, b])
theorem ps_any {α : Type} {φ : α → Prop} {F : α → Rl} {H : Hp} : ∀ {n : Nat} {xs : List V}, Ps (List.replicate n (AnyR φ F)) xs H → ∃ ys : List α, ys.length = n ∧ (∀ y ∈ ys, φ y) ∧ Ps (ys.map F) xs H
  | 0, [], _ => ⟨[], rfl, (fun y hy => by cases hy), trivial⟩
  | 0, _ :: _, h => h.elim
  | n + 1, [], h => by rw [List.replicate_succ] at h; exact h.elim
  | n + 1, v :: xs, h => by
    rw [List.replicate_succ] at h
    obtain ⟨⟨x, hx, e⟩, h2⟩ := h
    obtain ⟨ys, e1, e2, e3⟩ := ps_any h2
    exact ⟨x :: ys, by simp [e1], (fun y hy => by
      rcases List.mem_cons.mp hy with z | z
      · rw [z]; exact hx
      · exact e2 y z), e, e3⟩
/-- what is walked, so often as is not told -/
def IJX {α : Type} (c : Ct) (rs : List (Option Rl)) (ms : Ms) (wi : L2.TI) (χ : α → Prop) (n : α → Nat) (Y : α → Nat → Rl) (gm : Ms) : Prop := ∀ σ H, At c rs ms σ H → ∀ T : It → Hp → Prop, (∀ x, χ x → ∀ J H1 g, At c rs ms σ H1 → Kp (ads ms) H H1 → g.p H1 → IW J (n x) (Y x) g gm → T J H1) → wi σ H T
theorem ijx_rng {χ : Int → Prop} {tr : TA} (h : AJ c rs ms tr [InR χ]) (hn : ∀ n, χ n → -(2 ^ 62) ≤ n ∧ n < 2 ^ 62) : IJX c rs ms (iRng1 tr) χ Int.toNat (fun _ i => IsI (i : Int)) [] := fun σ H a T t =>
  h σ H a _ fun vs H1 a1 k1 p1 => by
    obtain ⟨v, rfl, n, hx, e⟩ := ps1 p1
    cases (show v = .int n from e)
    have hn := hn n hx
    refine ⟨n, rfl, hn.1, hn.2, t n hx _ H1 gT a1 k1 trivial ⟨fun i H hi _ _ => hi, fun H _ _ => Nat.le_refl _, fun i H x H' hi _ _ y => ?_⟩⟩
    obtain ⟨e1, e2⟩ := y
    subst e1 e2
    refine ⟨Kp.refl _ _, ?_⟩
    show V.int (0 + (i : Int)) = V.int (i : Int)
    rw [Int.zero_add]
theorem w_forXX {α : Type} {χ : α → Prop} {ι : Type} {wi : L2.TI} {g : TG} {tb : TS} {n : α → Nat} {Y : α → Nat → Rl} {gm : Ms} {is : List Nat} {nx : L2.St → Hp → Prop} {rt : VK} {bk ct : L2.St → Hp → Prop} (a : At c rs ms σ H) (hi : IJX c rs ms wi χ n Y gm) (φ : α → Nat → ι → Prop) (Pr Pr' : α → Nat → ι → List (Option Rl)) (Pm : α → Nat → ι → Ms)
    (h0 : ∀ z, χ z → ∀ (c : Ct) σ H, At c rs ms σ H → ∃ x, φ z 0 x ∧ At c (Pr z 0 x) (Pm z 0 x) σ H) (hgm : ∀ z i x, ∀ m ∈ gm, m ∈ Pm z i x) (hg : ∀ z, χ z → ∀ i x, i < n z → φ z i x → ∀ c, GJ c (Pr z i x) (Pm z i x) g (Y z i) is (Pr' z i x))
    (hs : ∀ z, χ z → ∀ i x, i < n z → φ z i x → ∀ gg nx' bk' ct' σ H, At (c.add gg) (Pr' z i x) (Pm z i x) σ H → (∀ y σ' H', φ z (i + 1) y → At (c.add gg) (Pr z (i + 1) y) (Pm z (i + 1) y) σ' H' → nx' σ' H') → tb ⟨nx', rt, bk', ct'⟩ σ H)
    (hd : ∀ z, χ z → ∀ x σ H, φ z (n z) x → At c (Pr z (n z) x) (Pm z (n z) x) σ H → nx σ H) : tFor wi g tb ⟨nx, rt, bk, ct⟩ σ H :=
  hi σ H a _ fun z hz J H1 gg a1 _ hgg w => by
    obtain ⟨x0, f0, b0⟩ := h0 z hz _ _ _ (a1.ghost hgg)
    refine ⟨fun i m σ' H' => m = n z - i ∧ i ≤ n z ∧ ∃ x, φ z i x ∧ At (c.add gg) (Pr z i x) (Pm z i x) σ' H', ⟨n z, by simp, Nat.zero_le _, x0, f0, b0⟩, ?_⟩
    rintro i m σ' H' ⟨rfl, hin, x, fx, b⟩
    have mm : Mems gm H' := b.me.sub (hgm z i x)
    by_cases hlt : i < n z
    · refine .inr ⟨w.go i H' hlt b.the mm, fun σ2 H2 => ∃ y, φ z (i + 1) y ∧ At (c.add gg) (Pr z (i + 1) y) (Pm z (i + 1) y) σ2 H2, fun σ2 H2 ⟨y, f2, b2⟩ => ⟨n z - (i + 1), by omega, rfl, hlt, y, f2, b2⟩, fun v H2 hy => ?_⟩
      obtain ⟨k2, y2⟩ := w.yld i H' v H2 hlt b.the mm hy
      exact hg z hz i x hlt fx _ v σ' H2 (b.grow k2) y2 _ fun σ2 b3 _ => hs z hz i x hlt fx gg _ _ _ σ2 H2 b3 fun y σ3 H3 f3 b4 => ⟨y, f3, b4⟩
    · have e : i = n z := by omega
      subst e
      exact .inl ⟨w.stop H' b.the mm, hd z hz x σ' H' fx b.unghost⟩
end
end K45
namespace K45
open PySem PySem.Spec PyProof.Rows L2
section
variable {c : Ct} {rs : List (Option Rl)} {ms : Ms} {σ : L2.St} {H H' : Hp} {K : PySem.W.Frag} {R Ra Rb Rc : Rl} {te ta tb : TE} {tt : TT} {tr : TA} {Rs Ws Rs' : List Rl} {E : XK}
/-! ### a display of a dict with ints as keys, tuples of ints as values -/
def PJ (c : Ct) (rs : List (Option Rl)) (ms : Ms) (K : PySem.W.Frag) (trs : List (TE × TE)) (kvs : List (Int × List Int)) : Prop := ∀ σ H, At c rs ms σ H → ∀ Q : List (V × V) → Hp → Prop, (∀ vs H', At c rs ms σ H' → Kp (ads ms) H H' → Ps (kvs.map fun p => TuI K p.2) vs H' → Q ((kvs.map fun p => V.int p.1).zip vs) H') → tPairs trs σ H Q
theorem pj_nil : PJ c rs ms K [] [] := fun σ H a Q q => q [] H a (Kp.refl _ _) trivial
theorem pj_cons {i : Int} {xs : List Int} {trs : List (TE × TE)} {kvs : List (Int × List Int)} (ha : EJ c rs ms ta (IsI i)) (hb : EJ c rs ms tb (TuI K xs)) (h : PJ c rs ms K trs kvs) : PJ c rs ms K ((ta, tb) :: trs) ((i, xs) :: kvs) := fun σ H a Q q =>
  ha σ H a _ fun v H1 a1 k1 p1 => hb σ H1 a1 _ fun w H2 a2 k2 p2 => h σ H2 a2 _ fun vs H3 a3 k3 p3 => by
    cases (show v = .int i from p1)
    exact q (w :: vs) H3 a3 ((k1.trans k2).trans k3) ⟨(TuI K xs).mono (k3.im a2.me) p2, p3⟩
theorem sqt_upd {p a : Addr} {o o' : HO} {xs : List V} {H : Hp} (hp : H p = some o) (ho : ∀ xs, o ≠ .tup xs) (ho2 : ∀ z xs, o ≠ .frz z (.tup xs)) (h : SqT K H a xs) : SqT K (upd H p o') a xs := by
  rcases h with h | h
  · refine .inl ?_
    rcases h with h | ⟨z, h⟩
    · have ne : a ≠ p := fun e => by rw [e, hp] at h; exact ho _ (Option.some.inj h)
      exact .inl (by rw [upd_ne ne]; exact h)
    · have ne : a ≠ p := fun e => by rw [e, hp] at h; exact ho2 _ _ (Option.some.inj h)
      exact .inr ⟨z, by rw [upd_ne ne]; exact h⟩
  · exact .inr h
theorem e_dget {trs : List (TE × TE)} {kvs : List (Int × List Int)} {i : Int} {x : List Int} {j : Nat} (h : PJ c rs ms K trs kvs) (h15 : kvs.length ≤ 15) (hi : EJ c rs ms tb (IsI i)) (hj : kvs[j]? = some (i, x))
    (hx : ∀ vs : List V, vs.length = kvs.length → valV (mergeK [] ((kvs.map fun p => (Sum.inl p.1 : Key)).zip vs)) (.inl i) = vs[j]?) : EJ c rs ms (tDGet (tDisp trs) tb) (TuI K x) := fun σ H a Q q => fun p hp => by
  have a1 := a.grow (Kp.new (p := p) (o := .dK []) hp)
  refine h σ _ a1 _ fun vs H2 a2 k2 p2 => ?_
  have out : p ∉ ads ms := fun z => by
    obtain ⟨m, hm, e⟩ := of_ads z
    obtain ⟨xs, _, e2⟩ := a.me m hm
    rw [e, hp] at e2; cases e2
  have e2 : H2 p = some (.dK []) := k2 p _ upd_same out
  have hl := p2.len
  rw [List.length_map] at hl
  refine ⟨e2, (kvs.map fun p => (Sum.inl p.1 : Key)).zip vs, ?_, by simp; omega, ?_⟩
  · rw [List.map_zip_eq_zipWith, List.zip_eq_zipWith]
    apply List.ext_getElem
    · simp
    · intro i h1 h2
      simp [kV]
  have kf : Kp (ads ms) H (upd H2 p (.dK (mergeK [] ((kvs.map fun p => (Sum.inl p.1 : Key)).zip vs)))) := fun b o e n => by
    have ne : b ≠ p := fun z => by rw [z, hp] at e; cases e
    exact (k2 b o (by rw [upd_ne ne]; exact e) n).bind fun o' e' _ => St.of (by rw [upd_ne ne]; exact e')
  have af := a.step kf (ms' := ms) (fun m hm => by
    obtain ⟨xs, f1, f2⟩ := a2.me m hm
    have ne : m.1 ≠ p := fun z => by rw [z, e2] at f2; cases f2
    exact ⟨xs, f1, by rw [upd_ne ne]; exact f2⟩) rfl
  refine hi σ _ af _ fun y H4 a4 k4 p4 => ?_
  cases (show y = .int i from p4)
  obtain ⟨v, e5, b, eb, hs⟩ := p2.get (i := j) (r := TuI K x) (by rw [List.getElem?_map, hj]; rfl)
  subst eb
  have hs' : SqT K (upd H2 p (.dK (mergeK [] ((kvs.map fun p => (Sum.inl p.1 : Key)).zip vs)))) b (x.map V.int) := sqt_upd e2 (fun xs z => nomatch z) (fun z xs w => nomatch w) hs
  refine ⟨p, .ref b, rfl, .inl ⟨_, .inl i, .inl (k4 p _ upd_same out), rfl, ?_⟩, q _ H4 a4 (kf.trans k4) ⟨b, rfl, sqt_im (k4.im af.me) hs'⟩⟩
  rw [hx vs hl, e5]
end
end K45
namespace K45
open PySem PySem.Spec PyProof.Rows L2
/-! ### what the law's defs promise -/


def FormR (K : PySem.W.Frag) (φ : List Int → Prop) : Rl := AnyR φ (TuI K)
abbrev TabR (K : PySem.W.Frag) (a b c d : Int) : Rl := TuR K [TuI K [a, b], TuI K [c, d]]
abbrev sp__law_roll (K : PySem.W.Frag) : Sp := spD fun Rs R => ∃ n : Int, Rs = [IsI n] ∧ 1 ≤ n ∧ n ≤ 2 ^ 50 ∧ R = InR (fun r => 0 ≤ r ∧ r < n)
abbrev sp__law_near (K : PySem.W.Frag) : Sp := spD fun Rs R => ∃ m : Int, Rs = [IsI m] ∧ 0 ≤ m ∧ m ≤ 2 ^ 48 ∧ R = InR (fun r => -m ≤ r ∧ r ≤ m)
abbrev sp__law_gcd (K : PySem.W.Frag) : Sp := spP fun Rs R => ∃ a b : Int, Rs = [IsI a, IsI b] ∧ R = IsI ((Int.gcd a b : Nat) : Int)

abbrev sp__law_shared (K : PySem.W.Frag) : Sp := spP fun Rs R => ∃ f : List Int, Rs = [TuI K f] ∧ R = IsI (shg f)
abbrev sp__law_raised (K : PySem.W.Frag) : Sp := spP fun Rs R => ∃ (x : Int) (n : Nat), Rs = [IsI x, IsI (n : Int)] ∧ x.natAbs < 2 ^ 100 ∧ n ≤ 1000 ∧ R = IsI (x ^ n)
abbrev sp__law_choose (K : PySem.W.Frag) : Sp := spP fun Rs R => ∃ n k : Nat, Rs = [IsI (n : Int), IsI (k : Int)] ∧ k ≤ n ∧ n ≤ 6 ∧ R = IsI (lots n k)
abbrev sp__law_plus (K : PySem.W.Frag) : Sp := spP fun Rs R => ∃ f g : List Int, Rs = [TuI K f, TuI K g] ∧ f.length ≤ 1000 ∧ R = TuI K (plus f g)
abbrev sp__law_scaled (K : PySem.W.Frag) : Sp := spP fun Rs R => ∃ (f : List Int) (c : Int), Rs = [TuI K f, IsI c] ∧ f.length ≤ 1000 ∧ Bd 100000 f ∧ c.natAbs < 2 ^ 100000 ∧ R = TuI K (scaled f c)
abbrev sp__law_product (K : PySem.W.Frag) : Sp := spP fun Rs R => ∃ f g : List Int, Rs = [TuI K f, TuI K g] ∧ 1 ≤ f.length ∧ 1 ≤ g.length ∧ f.length ≤ 400 ∧ g.length ≤ 400 ∧ Bd 100000 f ∧ Bd 100000 g ∧ R = TuI K (prod f g)
abbrev sp__law_power (K : PySem.W.Frag) : Sp := spP fun Rs R => ∃ (f : List Int) (n : Nat), Rs = [TuI K f, IsI (n : Int)] ∧ 1 ≤ f.length ∧ f.length ≤ 3 ∧ n ≤ 6 ∧ Bd 100 f ∧ R = TuI K (powL f n)
abbrev sp__law_all_product (K : PySem.W.Frag) : Sp := spX fun Rs xs R => ∃ (p : Addr) (ws : List V) (ps : List (Int × Int)), Rs = [LsR p ws (ps.map fun p => TuI K [p.1, p.2])] ∧ xs = [(p, ws)] ∧ ps.length ≤ 6 ∧ (∀ q ∈ ps, Bd 2 [q.1, q.2]) ∧ R = FormR K (fun f => f.length = ps.length + 1 ∧ Bd (9 * ps.length + 1) f)
abbrev sp__law_by_x (K : PySem.W.Frag) : Sp := spP fun Rs R => ∃ f : List Int, Rs = [TuI K f] ∧ 1 ≤ f.length ∧ f.length ≤ 60 ∧ Bd 90000 f ∧ R = TuI K (dX f)
abbrev sp__law_by_y (K : PySem.W.Frag) : Sp := spP fun Rs R => ∃ f : List Int, Rs = [TuI K f] ∧ 1 ≤ f.length ∧ f.length ≤ 60 ∧ Bd 90000 f ∧ R = TuI K (dY f)
abbrev sp__law_derived (K : PySem.W.Frag) : Sp := spP fun Rs R => ∃ (f : List Int) (a b : Nat), Rs = [TuI K f, IsI (a : Int), IsI (b : Int)] ∧ a + b < f.length ∧ f.length ≤ 60 ∧ Bd 80000 f ∧ R = TuI K (dXY f a b)
abbrev sp__law_laid (K : PySem.W.Frag) : Sp := spP fun Rs R => ∃ (f g : List Int) (k : Nat), Rs = [TuI K f, TuI K g, IsI (k : Int)] ∧ k < f.length ∧ k < g.length ∧ k ≤ 6 ∧ f.length ≤ 20 ∧ g.length ≤ 20 ∧ Bd 40000 f ∧ Bd 40000 g ∧ R = TuI K (laid k f g)
abbrev sp__law_changed (K : PySem.W.Frag) : Sp := spP fun Rs R => ∃ (f : List Int) (a b c d : Int), Rs = [TuI K f, TabR K a b c d] ∧ 1 ≤ f.length ∧ f.length ≤ 7 ∧ Bd 1000 f ∧ Bd 2 [a, b] ∧ Bd 2 [c, d] ∧ R = TuI K (changed [a, b] [c, d] f)
abbrev sp__law_plain (K : PySem.W.Frag) : Sp := spP fun Rs R => ∃ (a b m : Int), Rs = [TuI K [a, b]] ∧ (-m ≤ a ∧ a ≤ m) ∧ (-m ≤ b ∧ b ≤ m) ∧ m ≤ 1000 ∧ R = AnyR (fun p : Int × Int => (-m ≤ p.1 ∧ p.1 ≤ m) ∧ (-m ≤ p.2 ∧ p.2 ≤ m)) (fun p => TuI K [p.1, p.2])
abbrev sp__law_line (K : PySem.W.Frag) : Sp := spP fun Rs R => ∃ (a b : Int), Rs = [TuI K [a, b]] ∧ R = TuI K [b, 0 - a]
abbrev sp__law_point (K : PySem.W.Frag) : Sp := spD fun Rs R => ∃ (m : Int), Rs = [IsI m] ∧ 1 ≤ m ∧ m ≤ 1000 ∧ R = AnyR (fun p : Int × Int => (-m ≤ p.1 ∧ p.1 ≤ m) ∧ (-m ≤ p.2 ∧ p.2 ≤ m)) (fun p => TuI K [p.1, p.2])
abbrev sp__law_small_form (K : PySem.W.Frag) : Sp := spD fun Rs R => ∃ (d : Nat) (m : Int), Rs = [IsI (d : Int), IsI m] ∧ d ≤ 6 ∧ 0 ≤ m ∧ m ≤ 1000 ∧ R = FormR K (fun f => f.length = d + 1 ∧ ∀ x ∈ f, -m ≤ x ∧ x ≤ m)
abbrev sp__law_form (K : PySem.W.Frag) : Sp := spD fun Rs R => ∃ (d : Nat), Rs = [IsI (d : Int)] ∧ 1 ≤ d ∧ d ≤ 6 ∧ R = FormR K (fun f => f.length = d + 1 ∧ Bd 64 f)
abbrev sp__law_table (K : PySem.W.Frag) : Sp := spD fun Rs R => ∃ (m : Int), Rs = [IsI m] ∧ 1 ≤ m ∧ m ≤ 3 ∧ R = AnyR (fun t : (Int × Int) × (Int × Int) => Bd 2 [t.1.1, t.1.2] ∧ Bd 2 [t.2.1, t.2.2] ∧ t.1.1 * t.2.2 ≠ t.1.2 * t.2.1) (fun t => TabR K t.1.1 t.1.2 t.2.1 t.2.2)
abbrev sp__law_det (K : PySem.W.Frag) : Sp := spP fun Rs R => ∃ (a b c d : Int), Rs = [TabR K a b c d] ∧ Bd 2 [a, b] ∧ Bd 2 [c, d] ∧ R = IsI (det2 a b c d)
abbrev sp__law_invariants (K : PySem.W.Frag) : Sp := spP fun Rs R => ∃ (f : List Int), Rs = [TuI K f] ∧ 2 ≤ f.length ∧ f.length ≤ 7 ∧ Bd 200 f ∧ R = TuI K (inv f)
abbrev sp__law_sizes (K : PySem.W.Frag) : Sp := spP fun Rs R => ∃ (d : Nat), Rs = [IsI (d : Int)] ∧ 1 ≤ d ∧ d ≤ 6 ∧ R = TuI K ((sizes d).map fun n : Nat => (n : Int))

end K45
namespace K45
open PySem PySem.Spec PyProof.Rows L2
local macro_rules | `(tactic| walk_at "ev") => `(tactic| repeat' first
  | exact e_var rfl | exact e_c | exact a_nil | refine a_cons ?_ ?_
  | refine e_opI0 ?_ ?_ | refine e_opI ?_ ?_ ?_ | refine e_eqI ?_ ?_ | refine e_neI ?_ ?_ | refine e_neg ?_
  | refine e_lenI ?_ | refine e_lenR ?_ | refine e_abs ?_ | refine e_max ?_ ?_ | refine e_min ?_ ?_ | refine e_intB ?_ | refine e_intI ?_
  | refine e_chain ?_ ?_ ?_ | refine e_ixI ?_ ?_ ?_ ?_ | refine e_ixR ?_ ?_ ?_ ?_
  | refine e_slHead ?_ ?_ ?_ | refine e_slTail ?_ ?_ ?_
  | refine t_test ?_ | refine t_b ?_ | refine e_ifI ?_ ?_ ?_
  | refine ij_zipT ?_ ?_ | refine ij_tupI ?_ | refine ij_rng ?_ ?_
  | exact g_name | exact g_pair)
local macro_rules | `(tactic| walk_at "evn") => `(tactic| repeat' first
  | exact e_var rfl | exact EJ.any e_c | exact EJ.any (e_var rfl) | exact EJ.anyN (e_var rfl) | refine e_diceC (d := ‹Addr›) List.mem_cons_self ?_ (by decide) | refine e_mulL (φ := fun _ => True) (by decide) ?_ | refine e_mulR (φ := fun _ => True) (by decide) ?_ | exact e_c
  | refine e_a0 ?_ ?_ | refine e_intN ?_)
local macro_rules | `(tactic| walk_at "wk") => `(tactic| repeat' first | exact wk_nil | refine wk_none ?_ | refine wk_some (fun _ _ h => h) ?_)
abbrev N__law_roll : List Str := ["_law_dice_here", "_law_total", "_law_one", "_law_two", "_law_found"]
theorem sc__law_roll : FnScope N__law_roll ["_law_dice_here", "_law_total"] (defScope s__law_roll) := ⟨rfl, rfl, rfl, by decide +kernel, rfl, by decide +kernel, by decide +kernel⟩
def t__law_roll (K : PySem.W.Frag) : TS := (tSeq (tIfS (tTest (tOp rGtB (tOp (rIxL K) (tVar 0) (tC (.int 0))) (tC (.int 0)))) (tSeq (tAsg (tOp rModI (tCB rInt1 (tCons (tOp (rIxL K) (tVar 0) (tC (.int 0))) tNil)) (tVar 1)) (gName 4))
  (tSeq (tAsg (tOp rDivW (tOp (rIxL K) (tVar 0) (tC (.int 0))) (tVar 1)) (gSub (tVar 0) (tC (.int 0)) rSetL))
  (tRet (tVar 4)))) tNext)
  (tSeq (tAsg (tOp rAddI (tOp (rIxL K) (tVar 0) (tC (.int 2))) (tC (.int 1))) (gSub (tVar 0) (tC (.int 2)) rSetL))
  (tSeq (tAsg (tOp rModI (tCB rInt1 (tCons (tOp rAddI (tOp (rIxL K) (tVar 0) (tC (.int 1))) (tOp rMulI (tC (.int 92821991)) (tOp (rIxL K) (tVar 0) (tC (.int 2))))) tNil)) (tC (.int 2305843009213691579))) (gName 2))
  (tSeq (tAsg (tOp rAddI (tOp rMulI (tOp rModI (tCB rInt1 (tCons (tOp rAddI (tOp rMulI (tVar 2) (tVar 2)) (tOp rMulI (tC (.int 101)) (tOp (rIxL K) (tVar 0) (tC (.int 2))))) tNil)) (tC (.int 2305843009213692227))) (tC (.int 5915587))) (tVar 2)) (gName 3))
  (tRet (tOp rModI (tCB rInt1 (tCons (tOp rDivW (tVar 3) (tC (.int 65536))) tNil)) (tVar 1)))))))
theorem der__law_roll {P : Program} {w : World} {K : PySem.W.Frag} {mg : Str → Option Value} {base : Heap} {f : Addr} (T : Gb mg) (cdv : Value) (A : Around) (outer : List Env) (s : Shared) (H : Hp) (E : XK) (hr : Room 0 (A.deeper (envOfC "_law_roll" (defScope s__law_roll) s.heap.objs.size f cdv))) :
    PSs (cxOf CX0 P w K mg base N__law_roll "_law_roll" (defScope s__law_roll) f cdv A outer s H E).nox (defBody s__law_roll) (t__law_roll K) :=
  (pss_cons (ps_if (pt_cmpR op_gt (pe_ix ix_list (pv 0) pe_int (fun _ _ => rfl)) pe_int (nomark _)) (pss_cons (ps_set (i := 4) sc__law_roll.nd rfl (.inl rfl) (pe_op op_mod (pe_callTy call_int1 (by rfl) T.int_ (by decide +kernel) (pa_cons (pe_ix ix_list (pv 0) pe_int (fun _ _ => rfl)) pa_nil)) (pv 1)))
      (pss_cons (ps_asg (pe_op op_fdivW (pe_ix ix_list (pv 0) pe_int (fun _ _ => rfl)) (pv 1)) (pg_sub (pv 0) pe_int set_list))
      (pss_one (ps_ret (pv 4))))) pss_nil)
      (pss_cons (ps_asg (pe_op op_add (pe_ix ix_list (pv 0) pe_int (fun _ _ => rfl)) pe_int) (pg_sub (pv 0) pe_int set_list))
      (pss_cons (ps_set (i := 2) sc__law_roll.nd rfl (.inl rfl) (pe_op op_mod (pe_callTy call_int1 (by rfl) T.int_ (by decide +kernel) (pa_cons (pe_op op_add (pe_ix ix_list (pv 0) pe_int (fun _ _ => rfl)) (pe_op op_mul pe_int (pe_ix ix_list (pv 0) pe_int (fun _ _ => rfl)))) pa_nil)) pe_int))
      (pss_cons (ps_set (i := 3) sc__law_roll.nd rfl (.inl rfl) (pe_op op_add (pe_op op_mul (pe_op op_mod (pe_callTy call_int1 (by rfl) T.int_ (by decide +kernel) (pa_cons (pe_op op_add (pe_op op_mul (pv 2) (pv 2)) (pe_op op_mul pe_int (pe_ix ix_list (pv 0) pe_int (fun _ _ => rfl)))) pa_nil)) pe_int) pe_int) (pv 2)))
      (pss_one (ps_ret (pe_op op_mod (pe_callTy call_int1 (by rfl) T.int_ (by decide +kernel) (pa_cons (pe_op op_fdivW (pv 3) pe_int) pa_nil)) (pv 1))))))))
abbrev N__law_near : List Str := ["_law_dice_here", "_law_most"]
theorem sc__law_near : FnScope N__law_near ["_law_dice_here", "_law_most"] (defScope s__law_near) := ⟨rfl, rfl, rfl, by decide +kernel, rfl, by decide +kernel, by decide +kernel⟩
def t__law_near (K : PySem.W.Frag) : TS := (tRet (tOp rSubI (tCall (sp__law_roll K) [] E0 (tCons (tVar 0) (tCons (tOp rAddI (tOp rMulI (tC (.int 2)) (tVar 1)) (tC (.int 1))) tNil))) (tVar 1)))
structure C__law_near (P : Program) (w : World) (K : PySem.W.Frag) (mg : Str → Option Value) (base : Heap) : Prop where
  _law_roll_ : C8.Cal P w K mg base 1 "_law_roll" (sp__law_roll K) []
theorem der__law_near {P : Program} {w : World} {K : PySem.W.Frag} {mg : Str → Option Value} {base : Heap} {f : Addr} (T : Gb mg) (C : C__law_near P w K mg base) (cdv : Value) (A : Around) (outer : List Env) (s : Shared) (H : Hp) (E : XK) (hr : Room 1 (A.deeper (envOfC "_law_near" (defScope s__law_near) s.heap.objs.size f cdv))) :
    PSs (cxOf CX0 P w K mg base N__law_near "_law_near" (defScope s__law_near) f cdv A outer s H E).nox (defBody s__law_near) (t__law_near K) :=
  (pss_one (ps_ret (pe_op op_sub (C8.pe_c C._law_roll_ hr (by decide) (by rfl) (pa_cons (pv 0) (pa_cons (pe_op op_add (pe_op op_mul pe_int (pv 1)) pe_int) pa_nil))) (pv 1))))
abbrev N__law_gcd : List Str := ["_law_one", "_law_other"]
theorem sc__law_gcd : FnScope N__law_gcd ["_law_one", "_law_other"] (defScope s__law_gcd) := ⟨rfl, rfl, rfl, by decide +kernel, rfl, by decide +kernel, by decide +kernel⟩
def t__law_gcd (K : PySem.W.Frag) : TS := (tSeq (tPar 0 1 (tCons (tCB rAbsI (tCons (tVar 0) tNil)) (tCons (tCB rAbsI (tCons (tVar 1) tNil)) tNil)))
  (tSeq (tWhile (tTest (tOp rGtB (tVar 1) (tC (.int 0)))) (tPar 0 1 (tCons (tVar 1) (tCons (tOp rModI (tCB rInt1 (tCons (tVar 0) tNil)) (tVar 1)) tNil))))
  (tRet (tVar 0))))
theorem der__law_gcd {P : Program} {w : World} {K : PySem.W.Frag} {mg : Str → Option Value} {base : Heap} {f : Addr} (T : Gb mg) (cdv : Value) (A : Around) (outer : List Env) (s : Shared) (H : Hp) (E : XK) (hr : Room 0 (A.deeper (envOfC "_law_gcd" (defScope s__law_gcd) s.heap.objs.size f cdv))) :
    PSs (cxOf CX0 P w K mg base N__law_gcd "_law_gcd" (defScope s__law_gcd) f cdv A outer s H E).nox (defBody s__law_gcd) (t__law_gcd K) :=
  (pss_cons (ps_par (i := 0) (j := 1) rfl sc__law_gcd.nd rfl rfl (by decide) rfl rfl (pa_cons (pe_callB call_abs (by rfl) T.abs_ (by decide +kernel) (pa_cons (pv 0) pa_nil)) (pa_cons (pe_callB call_abs (by rfl) T.abs_ (by decide +kernel) (pa_cons (pv 1) pa_nil)) pa_nil)) rfl)
      (pss_cons (ps_while PassesOwn.never (pt_cmpR op_gt (pv 1) pe_int (nomark _)) (pss_one (ps_par (i := 0) (j := 1) rfl sc__law_gcd.nd rfl rfl (by decide) rfl rfl (pa_cons (pv 1) (pa_cons (pe_op op_mod (pe_callTy call_int1 (by rfl) T.int_ (by decide +kernel) (pa_cons (pv 0) pa_nil)) (pv 1)) pa_nil)) rfl)))
      (pss_one (ps_ret (pv 0)))))
theorem bw__law_roll : BindsW "_law_roll" s__law_roll ["_law_dice_here", "_law_total"] := fun kV doc pm an cdv ct us h => by
  match us, h with
  | [_, _], _ => rfl
theorem bw__law_near : BindsW "_law_near" s__law_near ["_law_dice_here", "_law_most"] := fun kV doc pm an cdv ct us h => by
  match us, h with
  | [_, _], _ => rfl
theorem bw__law_gcd : BindsW "_law_gcd" s__law_gcd ["_law_one", "_law_other"] := fun kV doc pm an cdv ct us h => by
  match us, h with
  | [_, _], _ => rfl
theorem sem__law_roll {K : PySem.W.Frag} {n : Int} (h1 : 1 ≤ n) (h2 : n ≤ 2 ^ 50) {H0 : Hp} {d : Addr} : SJ (t__law_roll K) ⟨H0, [d], []⟩ (rs0 5 [IsV (.ref d), IsI n]) [(d, Dice)] (InR fun r => 0 ≤ r ∧ r < n) := fun σ H a Q q => by
  have hw : CDivW 0 n := ⟨by omega, by
    have : n.natAbs < 2 ^ 51 := by omega
    by_cases e : n.natAbs = 0
    · omega
    · have := (Nat.log2_lt e).mpr this; omega⟩
  refine w_seq (w_ifU a (u_test (e_cmpN (φ := fun _ => True) (ψ := fun _ => True) ?_ ?_)) (fun H1 a1 => ?_) (fun H1 a1 => ?_))
  · walk_at "evn"
  · walk_at "evn"
  · refine w_seq (w_setA a1 (e_modN (φ := fun _ => True) h1 ?_ (e_var rfl)) (fun r hr σ2 H2 a2 => ?_))
    · walk_at "evn"
    refine w_seq (w_dice a2 (e_opN (C := CDivW) (φ := fun _ => True) (ψ := fun y => y = n) (χ := fun _ => True) ?_ (EJ.one (e_var rfl)) (fun x y _ e => ⟨by subst e; exact hw, trivial⟩)) (e_var rfl) e_c (by decide) (by decide) (fun H3 a3 => ?_))
    · walk_at "evn"
    refine w_ret a3 (e_var rfl) fun v H4 a4 p => q v H4 a4.kp a4.me ⟨r, hr, p⟩
  refine w_next (w_seq (w_dice a1 ?_ (e_var rfl) e_c (by decide) (by decide) (fun H3 a3 => ?_)))
  · walk_at "evn"
  refine w_seq (w_setA a3 (e_modN (φ := fun _ => True) (n := 2305843009213691579) (by decide) ?_ e_c) (fun r1 hr1 σ2 H2 a2 => ?_))
  · walk_at "evn"
  refine w_seq (w_setA (φ := fun _ => True) a2 (e_a0 (e_mulR (φ := fun r => 0 ≤ r ∧ r < 2305843009213692227) (by decide) (e_modN (φ := fun _ => True) (by decide) (e_intN (e_a0 (EJ.any (e_opI (e_var rfl) (e_var rfl) (.inl ?_))) ?_)) e_c)) (EJ.any (e_var rfl))) (fun r2 _ σ5 H5 a5 => ?_))
  · omega
  · walk_at "evn"
  refine w_ret a5 (e_modN (φ := fun _ => True) h1 (e_intN (e_opN (C := CDivW) (φ := fun _ => True) (ψ := fun y => y = 65536) (EJ.any (e_var rfl)) (EJ.one e_c) (fun x y _ e => ⟨by subst e; exact ⟨by decide, by decide⟩, trivial⟩))) (e_var rfl)) fun v H4 a4 p => q v H4 a4.kp a4.me p
section
variable {P : Program} {w : World} {K : PySem.W.Frag} {mg : Str → Option Value} {base : Heap}
theorem cal__law_roll (T : Gb mg) (D : Dfn K mg "_law_roll" s__law_roll) : C8.Cal P w K mg base 1 "_law_roll" (sp__law_roll K) [] :=
  calD D sc__law_roll bw__law_roll (by rintro Rs R ⟨n, rfl, _⟩; rfl) (fun f cdv A outer s H E hr => der__law_roll T cdv A outer s H E hr) (by rintro Rs R d ⟨n, rfl, h1, h2, rfl⟩ H0; exact sem__law_roll h1 h2)
theorem cal__law_near (T : Gb mg) (C : C__law_near P w K mg base) (D : Dfn K mg "_law_near" s__law_near) : C8.Cal P w K mg base 2 "_law_near" (sp__law_near K) [] :=
  calD D sc__law_near bw__law_near (by rintro Rs R ⟨n, rfl, _⟩; rfl) (fun f cdv A outer s H E hr => der__law_near T C cdv A outer s H E hr) (by
    rintro Rs R d ⟨m, rfl, h1, h2, rfl⟩ H0 σ H a Q q
    refine w_ret a (e_opN0 (φ := fun r => 0 ≤ r ∧ r < 2 * m + 1) (ψ := (· = m)) (χ := fun r => -m ≤ r ∧ r ≤ m) (e_callD List.mem_cons_self (a_cons (e_var rfl) (a_cons (e_opI0 (e_opI e_c (e_var rfl) (.inl (by decide))) e_c) a_nil)) ⟨_, rfl, ?_, ?_, rfl⟩) (EJ.one (e_var rfl)) ?_) fun v H' a p => q v H' a.kp a.me p
    · omega
    · omega
    · intro i j hi hj; omega)
theorem gcd_step {x y g : Int} (hx : 0 ≤ x) (hy : 0 < y) (h : ((Int.gcd x y : Nat) : Int) = g) : ((Int.gcd y (x % y) : Nat) : Int) = g := by
  rw [← h]
  obtain ⟨a, rfl⟩ := Int.eq_ofNat_of_zero_le hx
  obtain ⟨b, rfl⟩ := Int.eq_ofNat_of_zero_le (Int.le_of_lt hy)
  congr 1
  show Nat.gcd b (a % b) = Nat.gcd a b
  rw [Nat.gcd_comm a b, Nat.gcd_comm b (a % b), ← Nat.gcd_rec]
theorem cal__law_gcd (T : Gb mg) (D : Dfn K mg "_law_gcd" s__law_gcd) : C8.Cal P w K mg base 1 "_law_gcd" (sp__law_gcd K) [] :=
  calP D sc__law_gcd bw__law_gcd (by rintro Rs R ⟨x, y, rfl, _⟩; rfl) (fun f cdv A outer s H E hr => der__law_gcd T cdv A outer s H E hr) (by
    rintro Rs R ⟨x, y, rfl, rfl⟩ H0 σ H a Q q
    refine w_seq (w_par a (a_cons (e_abs (e_var rfl)) (a_cons (e_abs (e_var rfl)) a_nil)) fun σ1 H1 a1 => ?_)
    let ι := {p : Int × Int // 0 ≤ p.1 ∧ 0 ≤ p.2 ∧ ((Int.gcd p.1 p.2 : Nat) : Int) = ((Int.gcd x y : Nat) : Int)}
    refine w_seq (w_while (ι := ι) a1 (fun p => p.1.2.toNat) (fun p => [some (IsI p.1.1), some (IsI p.1.2)]) (fun _ => []) ⟨((if x < 0 then -x else x), (if y < 0 then -y else y)), ?_⟩ a1 (fun p => decide (0 < p.1.2)) (fun p => t_test (e_opI0 (e_var rfl) e_c)) ?_ ?_)
    · refine ⟨by dsimp only; split <;> omega, by dsimp only; split <;> omega, ?_⟩
      dsimp only
      split <;> split <;> simp
    · rintro ⟨⟨u, v⟩, h1, h2, h3⟩ hb nx' bk' ct' σ H a k
      have hv : 0 < v := of_decide_eq_true hb
      refine w_par a (a_cons (e_var rfl) (a_cons (e_opI (e_intI (e_var rfl)) (e_var rfl) hv) a_nil)) fun σ2 H2 a2 => ?_
      refine k ⟨(v, u % v), by omega, Int.emod_nonneg _ (by omega), gcd_step h1 hv h3⟩ σ2 H2 ?_ a2
      have := Int.emod_lt_of_pos u hv
      have := Int.emod_nonneg u (by omega : v ≠ 0)
      show (u % v).toNat < v.toNat
      omega
    · rintro ⟨⟨u, v⟩, h1, h2, h3⟩ hb σ H a
      refine w_ret a (e_var rfl) fun w H' a' p => q w H' a'.kp a'.me ?_
      have hv : ¬ 0 < v := of_decide_eq_false hb
      have : v = 0 := by simp only at h2; omega
      subst this
      rw [show w = V.int u from p, ← h3]
      show V.int u = V.int _
      congr 1
      simp only [Int.gcd_zero_right] at h3 ⊢
      simp only at h1
      omega)
end
end K45
namespace K45
open PySem PySem.Spec PyProof.Rows L2
local macro_rules | `(tactic| walk_at "ev") => `(tactic| repeat' first
  | exact e_var rfl | exact e_c | exact a_nil | refine a_cons ?_ ?_
  | refine e_opI0 ?_ ?_ | refine e_opI ?_ ?_ ?_ | refine e_eqI ?_ ?_ | refine e_neI ?_ ?_ | refine e_neg ?_
  | refine e_lenI ?_ | refine e_lenR ?_ | refine e_abs ?_ | refine e_max ?_ ?_ | refine e_min ?_ ?_ | refine e_intB ?_ | refine e_intI ?_
  | refine e_chain ?_ ?_ ?_ | refine e_ixI ?_ ?_ ?_ ?_ | refine e_ixR ?_ ?_ ?_ ?_
  | refine e_slHead ?_ ?_ ?_ | refine e_slTail ?_ ?_ ?_
  | refine t_test ?_ | refine t_b ?_ | refine e_ifI ?_ ?_ ?_
  | refine ij_zipT ?_ ?_ | refine ij_tupI ?_ | refine ij_rng ?_ ?_
  | exact g_name | exact g_pair)
local macro_rules | `(tactic| walk_at "evn") => `(tactic| repeat' first
  | exact e_var rfl | exact EJ.any e_c | exact EJ.any (e_var rfl) | exact EJ.anyN (e_var rfl) | refine e_diceC (d := ‹Addr›) List.mem_cons_self ?_ (by decide) | refine e_mulL (φ := fun _ => True) (by decide) ?_ | refine e_mulR (φ := fun _ => True) (by decide) ?_ | exact e_c
  | refine e_a0 ?_ ?_ | refine e_intN ?_)
local macro_rules | `(tactic| walk_at "wk") => `(tactic| repeat' first | exact wk_nil | refine wk_none ?_ | refine wk_some (fun _ _ h => h) ?_)
abbrev N__law_shared : List Str := ["_law_numbers", "_law_found", "_law_number"]
theorem sc__law_shared : FnScope N__law_shared ["_law_numbers"] (defScope s__law_shared) := ⟨rfl, rfl, rfl, by decide +kernel, rfl, by decide +kernel, by decide +kernel⟩
def t__law_shared (K : PySem.W.Frag) : TS := (tSeq (tAsg (tC (.int 0)) (gName 1))
  (tSeq (tFor (iTup K (tVar 0)) (gName 2) (tAsg (tCall (sp__law_gcd K) [] E0 (tCons (tVar 1) (tCons (tVar 2) tNil))) (gName 1)))
  (tRet (tVar 1))))
structure C__law_shared (P : Program) (w : World) (K : PySem.W.Frag) (mg : Str → Option Value) (base : Heap) : Prop where
  _law_gcd_ : C8.Cal P w K mg base 1 "_law_gcd" (sp__law_gcd K) []
theorem der__law_shared {P : Program} {w : World} {K : PySem.W.Frag} {mg : Str → Option Value} {base : Heap} {f : Addr} (T : Gb mg) (C : C__law_shared P w K mg base) (cdv : Value) (A : Around) (outer : List Env) (s : Shared) (H : Hp) (E : XK) (hr : Room 1 (A.deeper (envOfC "_law_shared" (defScope s__law_shared) s.heap.objs.size f cdv))) :
    PSs (cxOf CX0 P w K mg base N__law_shared "_law_shared" (defScope s__law_shared) f cdv A outer s H E).nox (defBody s__law_shared) (t__law_shared K) :=
  (pss_cons (ps_set (i := 1) sc__law_shared.nd rfl (.inl rfl) pe_int)
      (pss_cons (ps_for PassesOwn.never rfl (pi_tup (pv 0)) (pg_name (i := 2) sc__law_shared.nd rfl (Or.inl rfl)) (pss_one (ps_set (i := 1) sc__law_shared.nd rfl (.inl rfl) (C8.pe_c C._law_gcd_ hr (by decide) (by rfl) (pa_cons (pv 1) (pa_cons (pv 2) pa_nil))))))
      (pss_one (ps_ret (pv 1)))))
abbrev N__law_raised : List Str := ["_law_number", "_law_times", "_law_found", "_law_turn"]
theorem sc__law_raised : FnScope N__law_raised ["_law_number", "_law_times"] (defScope s__law_raised) := ⟨rfl, rfl, rfl, by decide +kernel, rfl, by decide +kernel, by decide +kernel⟩
def t__law_raised (K : PySem.W.Frag) : TS := (tSeq (tAsg (tC (.int 1)) (gName 2))
  (tSeq (tFor (iRng1 (tCons (tVar 1) tNil)) (gName 3) (tAsg (tOp rMulW (tVar 2) (tVar 0)) (gName 2)))
  (tRet (tVar 2))))
theorem der__law_raised {P : Program} {w : World} {K : PySem.W.Frag} {mg : Str → Option Value} {base : Heap} {f : Addr} (T : Gb mg) (cdv : Value) (A : Around) (outer : List Env) (s : Shared) (H : Hp) (E : XK) (hr : Room 0 (A.deeper (envOfC "_law_raised" (defScope s__law_raised) s.heap.objs.size f cdv))) :
    PSs (cxOf CX0 P w K mg base N__law_raised "_law_raised" (defScope s__law_raised) f cdv A outer s H E).nox (defBody s__law_raised) (t__law_raised K) :=
  (pss_cons (ps_set (i := 2) sc__law_raised.nd rfl (.inl rfl) pe_int)
      (pss_cons (ps_for PassesOwn.never rfl (pi_range1 rfl T.range_ (pa_cons (pv 1) pa_nil)) (pg_name (i := 3) sc__law_raised.nd rfl (Or.inl rfl)) (pss_one (ps_set (i := 2) sc__law_raised.nd rfl (.inl rfl) (pe_op op_mulW (pv 2) (pv 0)))))
      (pss_one (ps_ret (pv 2)))))
abbrev N__law_choose : List Str := ["_law_many", "_law_few", "_law_found", "_law_at"]
theorem sc__law_choose : FnScope N__law_choose ["_law_many", "_law_few"] (defScope s__law_choose) := ⟨rfl, rfl, rfl, by decide +kernel, rfl, by decide +kernel, by decide +kernel⟩
def t__law_choose (K : PySem.W.Frag) : TS := (tSeq (tAsg (tC (.int 1)) (gName 2))
  (tSeq (tFor (iRng1 (tCons (tVar 1) tNil)) (gName 3) (tAsg (tOp rDivI (tOp rMulI (tVar 2) (tOp rSubI (tVar 0) (tVar 3))) (tOp rAddI (tVar 3) (tC (.int 1)))) (gName 2)))
  (tRet (tVar 2))))
theorem der__law_choose {P : Program} {w : World} {K : PySem.W.Frag} {mg : Str → Option Value} {base : Heap} {f : Addr} (T : Gb mg) (cdv : Value) (A : Around) (outer : List Env) (s : Shared) (H : Hp) (E : XK) (hr : Room 0 (A.deeper (envOfC "_law_choose" (defScope s__law_choose) s.heap.objs.size f cdv))) :
    PSs (cxOf CX0 P w K mg base N__law_choose "_law_choose" (defScope s__law_choose) f cdv A outer s H E).nox (defBody s__law_choose) (t__law_choose K) :=
  (pss_cons (ps_set (i := 2) sc__law_choose.nd rfl (.inl rfl) pe_int)
      (pss_cons (ps_for PassesOwn.never rfl (pi_range1 rfl T.range_ (pa_cons (pv 1) pa_nil)) (pg_name (i := 3) sc__law_choose.nd rfl (Or.inl rfl)) (pss_one (ps_set (i := 2) sc__law_choose.nd rfl (.inl rfl) (pe_op op_fdiv (pe_op op_mul (pv 2) (pe_op op_sub (pv 0) (pv 3))) (pe_op op_add (pv 3) pe_int)))))
      (pss_one (ps_ret (pv 2)))))
abbrev N__law_plus : List Str := ["_law_one", "_law_other", "_law_first", "_law_second"]
theorem sc__law_plus : FnScope N__law_plus ["_law_one", "_law_other"] (defScope s__law_plus) := ⟨rfl, rfl, rfl, by decide +kernel, rfl, by decide +kernel, by decide +kernel⟩
def t__law_plus (K : PySem.W.Frag) : TS := (tRet (tCB (rTupOf K) (tCons (tLc (RZ.iZipA K (tCons (tVar 0) (tCons (tVar 1) tNil))) (L2.gTup K 2 (gCons (gName 2) (gCons (gName 3) gNil))) tYes (tOp rAddI (tVar 2) (tVar 3)) [2, 3]) tNil)))
theorem der__law_plus {P : Program} {w : World} {K : PySem.W.Frag} {mg : Str → Option Value} {base : Heap} {f : Addr} (T : Gb mg) (cdv : Value) (A : Around) (outer : List Env) (s : Shared) (H : Hp) (E : XK) (hr : Room 0 (A.deeper (envOfC "_law_plus" (defScope s__law_plus) s.heap.objs.size f cdv))) :
    PSs (cxOf CX0 P w K mg base N__law_plus "_law_plus" (defScope s__law_plus) f cdv A outer s H E).nox (defBody s__law_plus) (t__law_plus K) :=
  (pss_one (ps_ret (pe_callTy call_tuple_of (by rfl) T.tuple_ (by decide +kernel) (pa_cons (pe_lc (own := [("_law_first", 2), ("_law_second", 3)]) rfl sc__law_plus.nd (RZ.pi_zipA (by rfl) T.zip_ (pa_cons (pv 0) (pa_cons (pv 1) pa_nil))) (blkOk_by (own := [("_law_first", 2), ("_law_second", 3)]) (N := N__law_plus) (sc := defScope s__law_plus) (by decide +kernel)) (fun _ _ _ _ _ => (pg_tup rfl (pgs_cons (pg_name (i := 2) sc__law_plus.nd rfl (Or.inl rfl)) (pgs_cons (pg_name (i := 3) sc__law_plus.nd rfl (Or.inl rfl)) pgs_nil)))) (fun _ _ _ _ _ => pts_nil) (fun _ _ _ _ _ => (pe_op op_add (pv 2) (pv 3)))) pa_nil))))
abbrev N__law_scaled : List Str := ["_law_form_here", "_law_factor", "_law_entry"]
theorem sc__law_scaled : FnScope N__law_scaled ["_law_form_here", "_law_factor"] (defScope s__law_scaled) := ⟨rfl, rfl, rfl, by decide +kernel, rfl, by decide +kernel, by decide +kernel⟩
def t__law_scaled (K : PySem.W.Frag) : TS := (tRet (tCB (rTupOf K) (tCons (tLc (iTup K (tVar 0)) (gName 2) tYes (tOp rMulW (tVar 1) (tVar 2)) [2]) tNil)))
theorem der__law_scaled {P : Program} {w : World} {K : PySem.W.Frag} {mg : Str → Option Value} {base : Heap} {f : Addr} (T : Gb mg) (cdv : Value) (A : Around) (outer : List Env) (s : Shared) (H : Hp) (E : XK) (hr : Room 0 (A.deeper (envOfC "_law_scaled" (defScope s__law_scaled) s.heap.objs.size f cdv))) :
    PSs (cxOf CX0 P w K mg base N__law_scaled "_law_scaled" (defScope s__law_scaled) f cdv A outer s H E).nox (defBody s__law_scaled) (t__law_scaled K) :=
  (pss_one (ps_ret (pe_callTy call_tuple_of (by rfl) T.tuple_ (by decide +kernel) (pa_cons (pe_lc (own := [("_law_entry", 2)]) rfl sc__law_scaled.nd (pi_tup (pv 0)) (blkOk_by (own := [("_law_entry", 2)]) (N := N__law_scaled) (sc := defScope s__law_scaled) (by decide +kernel)) (fun _ _ _ _ _ => (pg_name (i := 2) sc__law_scaled.nd rfl (Or.inl rfl))) (fun _ _ _ _ _ => pts_nil) (fun _ _ _ _ _ => (pe_op op_mulW (pv 1) (pv 2)))) pa_nil))))
abbrev N__law_product : List Str := ["_law_one", "_law_other", "_law_found", "_law_at", "_law_first", "_law_place", "_law_second"]
theorem sc__law_product : FnScope N__law_product ["_law_one", "_law_other"] (defScope s__law_product) := ⟨rfl, rfl, rfl, by decide +kernel, rfl, by decide +kernel, by decide +kernel⟩
def t__law_product (K : PySem.W.Frag) : TS := (tSeq (tAsg (tLc (iRng1 (tCons (tOp rSubI (tOp rAddI (tCB (rLen K) (tCons (tVar 0) tNil)) (tCB (rLen K) (tCons (tVar 1) tNil))) (tC (.int 1))) tNil)) (gName 5) tYes (tC (.int 0)) [5]) (gName 2))
  (tSeq (tFor (iEnumT K (tCons (tVar 0) tNil)) (L2.gTup K 2 (gCons (gName 3) (gCons (gName 4) gNil))) (tFor (iEnumT K (tCons (tVar 1) tNil)) (L2.gTup K 2 (gCons (gName 5) (gCons (gName 6) gNil))) (tAsg (tOp rAddI (tOp (rIxL K) (tVar 2) (tOp rAddI (tVar 3) (tVar 5))) (tOp rMulW (tVar 4) (tVar 6))) (gSub (tVar 2) (tOp rAddI (tVar 3) (tVar 5)) rSetL))))
  (tRet (tCB (rTupOf K) (tCons (tVar 2) tNil)))))
theorem der__law_product {P : Program} {w : World} {K : PySem.W.Frag} {mg : Str → Option Value} {base : Heap} {f : Addr} (T : Gb mg) (cdv : Value) (A : Around) (outer : List Env) (s : Shared) (H : Hp) (E : XK) (hr : Room 0 (A.deeper (envOfC "_law_product" (defScope s__law_product) s.heap.objs.size f cdv))) :
    PSs (cxOf CX0 P w K mg base N__law_product "_law_product" (defScope s__law_product) f cdv A outer s H E).nox (defBody s__law_product) (t__law_product K) :=
  (pss_cons (ps_setLc (i := 2) (own := [("_law_place", 5)]) rfl sc__law_product.nd rfl rfl (sw_true rfl rfl rfl (by decide +kernel)) (pi_range1 rfl T.range_ (pa_cons (pe_op op_sub (pe_op op_add (pe_callB call_len_seq (by rfl) T.len_ (by decide +kernel) (pa_cons (pv 0) pa_nil)) (pe_callB call_len_seq (by rfl) T.len_ (by decide +kernel) (pa_cons (pv 1) pa_nil))) pe_int) pa_nil)) (blkOk_by (own := [("_law_place", 5)]) (N := N__law_product) (sc := defScope s__law_product) (by decide +kernel)) (fun _ _ _ _ _ => (pg_name (i := 5) sc__law_product.nd rfl (Or.inl rfl))) (fun _ _ _ _ _ => pts_nil) (fun _ _ _ _ _ => pe_int))
      (pss_cons (ps_for PassesOwn.never rfl (pi_enumT (by rfl) T.enumerate_ (pa_cons (pv 0) pa_nil)) (pg_tup rfl (pgs_cons (pg_name (i := 3) sc__law_product.nd rfl (Or.inl rfl)) (pgs_cons (pg_name (i := 4) sc__law_product.nd rfl (Or.inl rfl)) pgs_nil))) (pss_one (ps_for PassesOwn.never rfl (pi_enumT (by rfl) T.enumerate_ (pa_cons (pv 1) pa_nil)) (pg_tup rfl (pgs_cons (pg_name (i := 5) sc__law_product.nd rfl (Or.inl rfl)) (pgs_cons (pg_name (i := 6) sc__law_product.nd rfl (Or.inl rfl)) pgs_nil))) (pss_one (ps_asg (pe_op op_add (pe_ix ix_list (pv 2) (pe_op op_add (pv 3) (pv 5)) (fun _ _ => rfl)) (pe_op op_mulW (pv 4) (pv 6))) (pg_sub (pv 2) (pe_op op_add (pv 3) (pv 5)) set_list))))))
      (pss_one (ps_ret (pe_callTy call_tuple_of (by rfl) T.tuple_ (by decide +kernel) (pa_cons (pv 2) pa_nil))))))
theorem bw__law_shared : BindsW "_law_shared" s__law_shared ["_law_numbers"] := fun kV doc pm an cdv ct us h => by
  match us, h with
  | [_], _ => rfl
theorem bw__law_raised : BindsW "_law_raised" s__law_raised ["_law_number", "_law_times"] := fun kV doc pm an cdv ct us h => by
  match us, h with
  | [_, _], _ => rfl
theorem bw__law_choose : BindsW "_law_choose" s__law_choose ["_law_many", "_law_few"] := fun kV doc pm an cdv ct us h => by
  match us, h with
  | [_, _], _ => rfl
theorem bw__law_plus : BindsW "_law_plus" s__law_plus ["_law_one", "_law_other"] := fun kV doc pm an cdv ct us h => by
  match us, h with
  | [_, _], _ => rfl
theorem bw__law_scaled : BindsW "_law_scaled" s__law_scaled ["_law_form_here", "_law_factor"] := fun kV doc pm an cdv ct us h => by
  match us, h with
  | [_, _], _ => rfl
theorem bw__law_product : BindsW "_law_product" s__law_product ["_law_one", "_law_other"] := fun kV doc pm an cdv ct us h => by
  match us, h with
  | [_, _], _ => rfl
theorem cmulw {n m : Nat} {x y : Int} (hx : x.natAbs < 2 ^ n) (hy : y.natAbs < 2 ^ m) (h : n + m < 1000000) : CMulW x y := by
  have l : ∀ {k : Nat} {z : Int}, z.natAbs < 2 ^ k → z.natAbs.log2 ≤ k := fun {k z} hz => by
    by_cases e : z.natAbs = 0
    · rw [e]; simp
    · exact Nat.le_of_lt ((Nat.log2_lt e).mpr hz)
  have := l hx
  have := l hy
  show _ + _ < _
  omega
theorem pow_bits {x : Int} {m : Nat} (h : x.natAbs < 2 ^ m) : ∀ n : Nat, (x ^ n).natAbs < 2 ^ (m * n + 1)
  | 0 => by simp
  | n + 1 => by
    have := mul_lt_bits (pow_bits h n) h
    rw [Int.pow_succ]
    have e : m * n + 1 + m = m * (n + 1) + 1 := by rw [Nat.mul_succ]; omega
    rwa [e] at this
section
variable {P : Program} {w : World} {K : PySem.W.Frag} {mg : Str → Option Value} {base : Heap}
theorem cal__law_shared (T : Gb mg) (C : C__law_shared P w K mg base) (D : Dfn K mg "_law_shared" s__law_shared) : C8.Cal P w K mg base 2 "_law_shared" (sp__law_shared K) [] :=
  calP D sc__law_shared bw__law_shared (by rintro Rs R ⟨f, rfl, _⟩; rfl) (fun f cdv A outer s H E hr => der__law_shared T C cdv A outer s H E hr) (by
    rintro Rs R ⟨f, rfl, rfl⟩ H0 σ H a Q q
    refine w_seq (w_set a e_c fun σ1 H1 a1 => w_seq (w_for a1 (ij_tupI (e_var rfl)) (fun i => [some (TuI K f), some (IsI (shg (f.take i))), none]) (fun i => [some (TuI K f), some (IsI (shg (f.take i))), some (IsI (co f i))]) (fun _ => []) (fun c σ H b => b.wk ?_) (fun i m hm => by cases hm) (fun i hi c => g_name) (fun i hi gg nx' bk' ct' σ H b k => w_set b (e_call (a_cons (e_var rfl) (a_cons (e_var rfl) a_nil)) ⟨_, _, rfl, rfl⟩) fun σ' H' b' => k σ' H' (b'.wk ?_)) fun σ H b => w_ret b (e_var rfl) fun v H' a' p => q v H' a'.kp a'.me ?_))
    · walk_at "wk"
    · refine wk_some (fun _ _ h => h) (wk_some (fun v H h => ?_) (wk_none wk_nil))
      rw [shg_take hi]; exact h
    · rw [List.take_length] at p; exact p)
theorem cal__law_raised (T : Gb mg) (D : Dfn K mg "_law_raised" s__law_raised) : C8.Cal P w K mg base 1 "_law_raised" (sp__law_raised K) [] :=
  calP D sc__law_raised bw__law_raised (by rintro Rs R ⟨x, n, rfl, _⟩; rfl) (fun f cdv A outer s H E hr => der__law_raised T cdv A outer s H E hr) (by
    rintro Rs R ⟨x, n, rfl, hx, hn, rfl⟩ H0 σ H a Q q
    refine w_seq (w_set a e_c fun σ1 H1 a1 => w_seq (w_for a1 (ij_rng (n := (n : Int)) (a_cons (e_var rfl) a_nil) (by omega)) (fun i => [some (IsI x), some (IsI (n : Int)), some (IsI (x ^ i)), none]) (fun i => [some (IsI x), some (IsI (n : Int)), some (IsI (x ^ i)), some (IsI (i : Int))]) (fun _ => []) (fun c σ H b => b.wk ?_) (fun i m hm => by cases hm) (fun i hi c => g_name) (fun i hi gg nx' bk' ct' σ H b k => w_set b (e_opI (e_var rfl) (e_var rfl) (cmulw (n := 100 * i + 1) (m := 100) ?_ hx ?_)) fun σ' H' b' => k σ' H' (b'.wk ?_)) fun σ H b => w_ret b (e_var rfl) fun v H' a' p => q v H' a'.kp a'.me ?_))
    · refine wk_some (fun _ _ h => h) (wk_some (fun _ _ h => h) (wk_some (fun v H h => ?_) (wk_none wk_nil)))
      rw [Int.pow_zero]; exact h
    · exact pow_bits hx i
    · omega
    · refine wk_some (fun _ _ h => h) (wk_some (fun _ _ h => h) (wk_some (fun v H h => ?_) (wk_none wk_nil)))
      rw [Int.pow_succ]; exact h
    · exact p)
theorem lots_facts : ∀ n, n ≤ 6 → ∀ i, i ≤ n → (lots n i).natAbs < 2 ^ 10 := by decide
theorem cal__law_choose (T : Gb mg) (D : Dfn K mg "_law_choose" s__law_choose) : C8.Cal P w K mg base 1 "_law_choose" (sp__law_choose K) [] :=
  calP D sc__law_choose bw__law_choose (by rintro Rs R ⟨x, n, rfl, _⟩; rfl) (fun f cdv A outer s H E hr => der__law_choose T cdv A outer s H E hr) (by
    rintro Rs R ⟨m, n, rfl, hm, hn, rfl⟩ H0 σ H a Q q
    refine w_seq (w_set a e_c fun σ1 H1 a1 => w_seq (w_for a1 (ij_rng (n := (n : Int)) (a_cons (e_var rfl) a_nil) (by omega)) (fun i => [some (IsI (m : Int)), some (IsI (n : Int)), some (IsI (lots m i)), none]) (fun i => [some (IsI (m : Int)), some (IsI (n : Int)), some (IsI (lots m i)), some (IsI (i : Int))]) (fun _ => []) (fun c σ H b => b.wk ?_) (fun i m hm => by cases hm) (fun i hi c => g_name) (fun i hi gg nx' bk' ct' σ H b k => w_set b (e_opI (e_opI (e_var rfl) (e_opI0 (e_var rfl) (e_var rfl)) (.inr ?_)) (e_opI0 (e_var rfl) e_c) ?_) fun σ' H' b' => k σ' H' (b'.wk ?_)) fun σ H b => w_ret b (e_var rfl) fun v H' a' p => q v H' a'.kp a'.me ?_))
    · walk_at "wk"
    · omega
    · show 0 < (i : Int) + 1 ∧ (i : Int) + 1 < 1073741824
      omega
    · refine wk_some (fun _ _ h => h) (wk_some (fun _ _ h => h) (wk_some (fun v H h => h) (wk_none wk_nil)))
    · exact p)
theorem cal__law_plus (T : Gb mg) (D : Dfn K mg "_law_plus" s__law_plus) : C8.Cal P w K mg base 1 "_law_plus" (sp__law_plus K) [] :=
  calP D sc__law_plus bw__law_plus (by rintro Rs R ⟨x, n, rfl, _⟩; rfl) (fun f cdv A outer s H E hr => der__law_plus T cdv A outer s H E hr) (by
    rintro Rs R ⟨f, g, rfl, hf, rfl⟩ H0 σ H a Q q
    refine w_ret a (R := TuI K (plus f g)) ?_ fun v H' a' p => q v H' a'.kp a'.me p
    refine e_tupOfI (ns := plus f g) ?_
    refine' el_lcI0 (n := min f.length g.length) (f := fun i => co f i + co g i) (ij_zipT ?hi rfl) (by omega) (fun i hi c ms => ?hg) (fun i hi x D acc => ?he) ?_
    case hi => walk_at "ev"
    case hg => walk_at "ev"
    case he => walk_at "ev"
    refine List.ext_getElem (by simp [plus_length, tab_length]) fun i h1 h2 => ?_
    have h3 : i < f.length := by rw [plus_length] at h1; omega
    have h4 : i < g.length := by rw [plus_length] at h1; omega
    simp [plus, tab, co_lt h3, co_lt h4])
theorem cal__law_scaled (T : Gb mg) (D : Dfn K mg "_law_scaled" s__law_scaled) : C8.Cal P w K mg base 1 "_law_scaled" (sp__law_scaled K) [] :=
  calP D sc__law_scaled bw__law_scaled (by rintro Rs R ⟨x, n, rfl, _⟩; rfl) (fun f cdv A outer s H E hr => der__law_scaled T cdv A outer s H E hr) (by
    rintro Rs R ⟨f, x, rfl, hl, hf, hx, rfl⟩ H0 σ H a Q q
    refine w_ret a (R := TuI K (scaled f x)) ?_ fun v H' a' p => q v H' a'.kp a'.me p
    refine e_tupOfI (ns := scaled f x) ?_
    refine' el_lcI0 (n := f.length) (f := fun i => x * co f i) (ij_tupI ?hi) hl (fun i hi c ms => ?hg) (fun i hi y D acc => ?he) ?_
    case hi => walk_at "ev"
    case hg => walk_at "ev"
    case he => exact e_opI (e_var rfl) (e_var rfl) (cmulw hx (hf i) (by omega))
    refine List.ext_getElem (by simp [scaled_length, tab_length]) fun i h1 h2 => ?_
    have h3 : i < f.length := by rw [scaled_length] at h1; omega
    simp [scaled, tab, co_lt h3])
theorem cal__law_product (T : Gb mg) (D : Dfn K mg "_law_product" s__law_product) : C8.Cal P w K mg base 1 "_law_product" (sp__law_product K) [] :=
  calP D sc__law_product bw__law_product (by rintro Rs R ⟨x, n, rfl, _⟩; rfl) (fun f cdv A outer s H E hr => der__law_product T cdv A outer s H E hr) (by
    rintro Rs R ⟨f, g, rfl, hf1, hg1, hf4, hg4, hf, hg, rfl⟩ H0 σ H a Q q
    have hL : ∀ i, (ouN (co f) g (zeros (f.length + g.length - 1)) i).length = f.length + g.length - 1 := fun i => by rw [ouN_length, zeros_length]
    refine w_seq (w_setL (ns := zeros (f.length + g.length - 1)) a ?_ fun p σ1 H1 a1 => ?_)
    · refine' el_lcI0 (n := f.length + g.length - 1) (f := fun i => 0) (ij_rngN (n := (f.length : Int) + (g.length : Int) - 1) ?hi (by omega) (by omega)) (by omega) (fun i hi c ms => ?hg) (fun i hi y D acc => ?he) ?_
      case hi => walk_at "ev"
      case hg => walk_at "ev"
      case he => walk_at "ev"
      exact List.ext_getElem (by simp [zeros, tab]) fun i h1 h2 => by simp [zeros, tab]
    refine w_seq (w_for a1 (ij_enumI (e_var rfl)) (fun i => [some (TuI K f), some (TuI K g), some (IsV (.ref p)), none, none, none, none]) (fun i => [some (TuI K f), some (TuI K g), some (IsV (.ref p)), some (IsI (i : Int)), some (IsI (co f i)), none, none]) (fun i => [(p, (· = (ouN (co f) g (zeros (f.length + g.length - 1)) i).map V.int))]) (fun c σ H b => b.wk ?_) (fun i m hm => by cases hm) (fun i hi c => g_pair) (fun i hi gg nx' bk' ct' σ H b k => ?_) fun σ H b => ?_)
    · walk_at "wk"
    · refine w_for b (ij_enumI (e_var rfl)) (fun j => [some (TuI K f), some (TuI K g), some (IsV (.ref p)), some (IsI (i : Int)), some (IsI (co f i)), none, none]) (fun j => [some (TuI K f), some (TuI K g), some (IsV (.ref p)), some (IsI (i : Int)), some (IsI (co f i)), some (IsI (j : Int)), some (IsI (co g j))]) (fun j => [(p, (· = (inN (co f i) g i (ouN (co f) g (zeros (f.length + g.length - 1)) i) j).map V.int))]) (fun c σ H b => b.wk ?_) (fun i m hm => by cases hm) (fun i hi c => g_pair) (fun j hj gg nx' bk' ct' σ H b k => ?_) fun σ H b => k σ H (b.wk ?_)
      · walk_at "wk"
      · have hlen := inN_length (co f i) g i (ouN (co f) g (zeros (f.length + g.length - 1)) i) j
        have hLi := hL i
        refine w_subX (j := (i : Int) + (j : Int)) b (e_opI0 (e_ixX List.mem_cons_self (e_var rfl) (e_opI0 (e_var rfl) (e_var rfl)) ?_ ?_) (e_opI (e_var rfl) (e_var rfl) (cmulw (hf i) (hg j) (by omega)))) (e_var rfl) (e_opI0 (e_var rfl) (e_var rfl)) ?_ ?_ fun H' b' => k σ H' ?_
        · omega
        · omega
        · omega
        · omega
        · have e : ((i : Int) + (j : Int)).toNat = i + j := by omega
          rw [e] at b'
          exact b'.wk (by walk_at "wk")
      · walk_at "wk"
    · refine w_ret b (e_tupX List.mem_cons_self (e_var rfl)) fun v H' a' pv => ?_
      rw [ouN_prod hf1 hg1] at pv
      refine q v H' a'.kp (fun m hm => by cases hm) pv)
end
end K45
namespace K45
open PySem PySem.Spec PyProof.Rows L2
local macro_rules | `(tactic| walk_at "ev") => `(tactic| repeat' first
  | exact e_var rfl | exact e_c | exact a_nil | refine a_cons ?_ ?_
  | refine e_opI0 ?_ ?_ | refine e_opI ?_ ?_ ?_ | refine e_eqI ?_ ?_ | refine e_neI ?_ ?_ | refine e_neg ?_
  | refine e_lenI ?_ | refine e_lenR ?_ | refine e_abs ?_ | refine e_max ?_ ?_ | refine e_min ?_ ?_ | refine e_intB ?_ | refine e_intI ?_
  | refine e_chain ?_ ?_ ?_ | refine e_ixI ?_ ?_ ?_ ?_ | refine e_ixR ?_ ?_ ?_ ?_
  | refine e_slHead ?_ ?_ ?_ | refine e_slTail ?_ ?_ ?_
  | refine t_test ?_ | refine t_b ?_ | refine e_ifI ?_ ?_ ?_
  | refine ij_zipT ?_ ?_ | refine ij_tupI ?_ | refine ij_rng ?_ ?_
  | exact g_name | exact g_pair)
local macro_rules | `(tactic| walk_at "evn") => `(tactic| repeat' first
  | exact e_var rfl | exact EJ.any e_c | exact EJ.any (e_var rfl) | exact EJ.anyN (e_var rfl) | refine e_diceC (d := ‹Addr›) List.mem_cons_self ?_ (by decide) | refine e_mulL (φ := fun _ => True) (by decide) ?_ | refine e_mulR (φ := fun _ => True) (by decide) ?_ | exact e_c
  | refine e_a0 ?_ ?_ | refine e_intN ?_)
local macro_rules | `(tactic| walk_at "wk") => `(tactic| repeat' first | exact wk_nil | refine wk_none ?_ | refine wk_some (fun _ _ h => h) ?_)
abbrev N__law_power : List Str := ["_law_pair", "_law_times", "_law_found", "_law_turn"]
theorem sc__law_power : FnScope N__law_power ["_law_pair", "_law_times"] (defScope s__law_power) := ⟨rfl, rfl, rfl, by decide +kernel, rfl, by decide +kernel, by decide +kernel⟩
def t__law_power (K : PySem.W.Frag) : TS := (tSeq (tAsg (tTup (tCons (tC (.int 1)) tNil)) (gName 2))
  (tSeq (tFor (iRng1 (tCons (tVar 1) tNil)) (gName 3) (tAsg (tCall (sp__law_product K) [] E0 (tCons (tVar 2) (tCons (tVar 0) tNil))) (gName 2)))
  (tRet (tVar 2))))
structure C__law_power (P : Program) (w : World) (K : PySem.W.Frag) (mg : Str → Option Value) (base : Heap) : Prop where
  _law_product_ : C8.Cal P w K mg base 1 "_law_product" (sp__law_product K) []
theorem der__law_power {P : Program} {w : World} {K : PySem.W.Frag} {mg : Str → Option Value} {base : Heap} {f : Addr} (T : Gb mg) (C : C__law_power P w K mg base) (cdv : Value) (A : Around) (outer : List Env) (s : Shared) (H : Hp) (E : XK) (hr : Room 1 (A.deeper (envOfC "_law_power" (defScope s__law_power) s.heap.objs.size f cdv))) :
    PSs (cxOf CX0 P w K mg base N__law_power "_law_power" (defScope s__law_power) f cdv A outer s H E).nox (defBody s__law_power) (t__law_power K) :=
  (pss_cons (ps_set (i := 2) sc__law_power.nd rfl (.inl rfl) (pe_tup (pa_cons pe_int pa_nil)))
      (pss_cons (ps_for PassesOwn.never rfl (pi_range1 rfl T.range_ (pa_cons (pv 1) pa_nil)) (pg_name (i := 3) sc__law_power.nd rfl (Or.inl rfl)) (pss_one (ps_set (i := 2) sc__law_power.nd rfl (.inl rfl) (C8.pe_c C._law_product_ hr (by decide) (by rfl) (pa_cons (pv 2) (pa_cons (pv 0) pa_nil))))))
      (pss_one (ps_ret (pv 2)))))
abbrev N__law_by_x : List Str := ["_law_form_here", "_law_at", "_law_entry"]
theorem sc__law_by_x : FnScope N__law_by_x ["_law_form_here"] (defScope s__law_by_x) := ⟨rfl, rfl, rfl, by decide +kernel, rfl, by decide +kernel, by decide +kernel⟩
def t__law_by_x (K : PySem.W.Frag) : TS := (tRet (tCB (rTupOf K) (tCons (tLc (iEnumT K (tCons (tSl (rSlT K) (tVar 0) tNoPart (tPart (tUn rNegI (tC (.int 1))))) tNil)) (L2.gTup K 2 (gCons (gName 1) (gCons (gName 2) gNil))) tYes (tOp rMulI (tVar 2) (tOp rSubI (tOp rSubI (tCB (rLen K) (tCons (tVar 0) tNil)) (tC (.int 1))) (tVar 1))) [1, 2]) tNil)))
theorem der__law_by_x {P : Program} {w : World} {K : PySem.W.Frag} {mg : Str → Option Value} {base : Heap} {f : Addr} (T : Gb mg) (cdv : Value) (A : Around) (outer : List Env) (s : Shared) (H : Hp) (E : XK) (hr : Room 0 (A.deeper (envOfC "_law_by_x" (defScope s__law_by_x) s.heap.objs.size f cdv))) :
    PSs (cxOf CX0 P w K mg base N__law_by_x "_law_by_x" (defScope s__law_by_x) f cdv A outer s H E).nox (defBody s__law_by_x) (t__law_by_x K) :=
  (pss_one (ps_ret (pe_callTy call_tuple_of (by rfl) T.tuple_ (by decide +kernel) (pa_cons (pe_lc (own := [("_law_at", 1), ("_law_entry", 2)]) rfl sc__law_by_x.nd (pi_enumT (by rfl) T.enumerate_ (pa_cons (pe_slice sl_tup (pv 0) po_none (po_some (pe_un un_neg pe_int))) pa_nil)) (blkOk_by (own := [("_law_at", 1), ("_law_entry", 2)]) (N := N__law_by_x) (sc := defScope s__law_by_x) (by decide +kernel)) (fun _ _ _ _ _ => (pg_tup rfl (pgs_cons (pg_name (i := 1) sc__law_by_x.nd rfl (Or.inl rfl)) (pgs_cons (pg_name (i := 2) sc__law_by_x.nd rfl (Or.inl rfl)) pgs_nil)))) (fun _ _ _ _ _ => pts_nil) (fun _ _ _ _ _ => (pe_op op_mul (pv 2) (pe_op op_sub (pe_op op_sub (pe_callB call_len_seq (by rfl) T.len_ (by decide +kernel) (pa_cons (pv 0) pa_nil)) pe_int) (pv 1))))) pa_nil))))
abbrev N__law_by_y : List Str := ["_law_form_here", "_law_at", "_law_entry"]
theorem sc__law_by_y : FnScope N__law_by_y ["_law_form_here"] (defScope s__law_by_y) := ⟨rfl, rfl, rfl, by decide +kernel, rfl, by decide +kernel, by decide +kernel⟩
def t__law_by_y (K : PySem.W.Frag) : TS := (tRet (tCB (rTupOf K) (tCons (tLc (iEnumT K (tCons (tSl (rSlT K) (tVar 0) (tPart (tC (.int 1))) tNoPart) tNil)) (L2.gTup K 2 (gCons (gName 1) (gCons (gName 2) gNil))) tYes (tOp rMulI (tVar 2) (tOp rAddI (tVar 1) (tC (.int 1)))) [1, 2]) tNil)))
theorem der__law_by_y {P : Program} {w : World} {K : PySem.W.Frag} {mg : Str → Option Value} {base : Heap} {f : Addr} (T : Gb mg) (cdv : Value) (A : Around) (outer : List Env) (s : Shared) (H : Hp) (E : XK) (hr : Room 0 (A.deeper (envOfC "_law_by_y" (defScope s__law_by_y) s.heap.objs.size f cdv))) :
    PSs (cxOf CX0 P w K mg base N__law_by_y "_law_by_y" (defScope s__law_by_y) f cdv A outer s H E).nox (defBody s__law_by_y) (t__law_by_y K) :=
  (pss_one (ps_ret (pe_callTy call_tuple_of (by rfl) T.tuple_ (by decide +kernel) (pa_cons (pe_lc (own := [("_law_at", 1), ("_law_entry", 2)]) rfl sc__law_by_y.nd (pi_enumT (by rfl) T.enumerate_ (pa_cons (pe_slice sl_tup (pv 0) (po_some pe_int) po_none) pa_nil)) (blkOk_by (own := [("_law_at", 1), ("_law_entry", 2)]) (N := N__law_by_y) (sc := defScope s__law_by_y) (by decide +kernel)) (fun _ _ _ _ _ => (pg_tup rfl (pgs_cons (pg_name (i := 1) sc__law_by_y.nd rfl (Or.inl rfl)) (pgs_cons (pg_name (i := 2) sc__law_by_y.nd rfl (Or.inl rfl)) pgs_nil)))) (fun _ _ _ _ _ => pts_nil) (fun _ _ _ _ _ => (pe_op op_mul (pv 2) (pe_op op_add (pv 1) pe_int)))) pa_nil))))
abbrev N__law_derived : List Str := ["_law_form_here", "_law_one", "_law_other", "_law_turn"]
theorem sc__law_derived : FnScope N__law_derived ["_law_form_here", "_law_one", "_law_other"] (defScope s__law_derived) := ⟨rfl, rfl, rfl, by decide +kernel, rfl, by decide +kernel, by decide +kernel⟩
def t__law_derived (K : PySem.W.Frag) : TS := (tSeq (tFor (iRng1 (tCons (tVar 1) tNil)) (gName 3) (tAsg (tCall (sp__law_by_x K) [] E0 (tCons (tVar 0) tNil)) (gName 0)))
  (tSeq (tFor (iRng1 (tCons (tVar 2) tNil)) (gName 3) (tAsg (tCall (sp__law_by_y K) [] E0 (tCons (tVar 0) tNil)) (gName 0)))
  (tRet (tVar 0))))
structure C__law_derived (P : Program) (w : World) (K : PySem.W.Frag) (mg : Str → Option Value) (base : Heap) : Prop where
  _law_by_x_ : C8.Cal P w K mg base 1 "_law_by_x" (sp__law_by_x K) []
  _law_by_y_ : C8.Cal P w K mg base 1 "_law_by_y" (sp__law_by_y K) []
theorem der__law_derived {P : Program} {w : World} {K : PySem.W.Frag} {mg : Str → Option Value} {base : Heap} {f : Addr} (T : Gb mg) (C : C__law_derived P w K mg base) (cdv : Value) (A : Around) (outer : List Env) (s : Shared) (H : Hp) (E : XK) (hr : Room 1 (A.deeper (envOfC "_law_derived" (defScope s__law_derived) s.heap.objs.size f cdv))) :
    PSs (cxOf CX0 P w K mg base N__law_derived "_law_derived" (defScope s__law_derived) f cdv A outer s H E).nox (defBody s__law_derived) (t__law_derived K) :=
  (pss_cons (ps_for PassesOwn.never rfl (pi_range1 rfl T.range_ (pa_cons (pv 1) pa_nil)) (pg_name (i := 3) sc__law_derived.nd rfl (Or.inl rfl)) (pss_one (ps_set (i := 0) sc__law_derived.nd rfl (.inl rfl) (C8.pe_c C._law_by_x_ hr (by decide) (by rfl) (pa_cons (pv 0) pa_nil)))))
      (pss_cons (ps_for PassesOwn.never rfl (pi_range1 rfl T.range_ (pa_cons (pv 2) pa_nil)) (pg_name (i := 3) sc__law_derived.nd rfl (Or.inl rfl)) (pss_one (ps_set (i := 0) sc__law_derived.nd rfl (.inl rfl) (C8.pe_c C._law_by_y_ hr (by decide) (by rfl) (pa_cons (pv 0) pa_nil)))))
      (pss_one (ps_ret (pv 0)))))
abbrev N__law_laid : List Str := ["_law_one", "_law_other", "_law_times", "_law_found", "_law_at", "_law_piece", "_law_number", "_law_place"]
theorem sc__law_laid : FnScope N__law_laid ["_law_one", "_law_other", "_law_times"] (defScope s__law_laid) := ⟨rfl, rfl, rfl, by decide +kernel, rfl, by decide +kernel, by decide +kernel⟩
def t__law_laid (K : PySem.W.Frag) : TS := (tSeq (tAsg (tCB (rTupOf K) (tCons (tLc (iRng1 (tCons (tOp rSubI (tOp rSubI (tOp rAddI (tCB (rLen K) (tCons (tVar 0) tNil)) (tCB (rLen K) (tCons (tVar 1) tNil))) (tC (.int 1))) (tOp rMulI (tC (.int 2)) (tVar 2))) tNil)) (gName 7) tYes (tC (.int 0)) [7]) tNil)) (gName 3))
  (tSeq (tFor (iRng1 (tCons (tOp rAddI (tVar 2) (tC (.int 1))) tNil)) (gName 4) (tSeq (tAsg (tCall (sp__law_product K) [] E0 (tCons (tCall (sp__law_derived K) [] E0 (tCons (tVar 0) (tCons (tOp rSubI (tVar 2) (tVar 4)) (tCons (tVar 4) tNil)))) (tCons (tCall (sp__law_derived K) [] E0 (tCons (tVar 1) (tCons (tVar 4) (tCons (tOp rSubI (tVar 2) (tVar 4)) tNil)))) tNil))) (gName 5))
  (tSeq (tAsg (tCall (sp__law_choose K) [] E0 (tCons (tVar 2) (tCons (tVar 4) tNil))) (gName 6))
  (tAsg (tCall (sp__law_plus K) [] E0 (tCons (tVar 3) (tCons (tCall (sp__law_scaled K) [] E0 (tCons (tVar 5) (tCons (tIf (tTest (tOp rEq (tOp rModI (tVar 4) (tC (.int 2))) (tC (.int 0)))) (tVar 6) (tOp rSubI (tC (.int 0)) (tVar 6))) tNil))) tNil))) (gName 3)))))
  (tRet (tVar 3))))
structure C__law_laid (P : Program) (w : World) (K : PySem.W.Frag) (mg : Str → Option Value) (base : Heap) : Prop where
  _law_derived_ : C8.Cal P w K mg base 2 "_law_derived" (sp__law_derived K) []
  _law_product_ : C8.Cal P w K mg base 1 "_law_product" (sp__law_product K) []
  _law_choose_ : C8.Cal P w K mg base 1 "_law_choose" (sp__law_choose K) []
  _law_scaled_ : C8.Cal P w K mg base 1 "_law_scaled" (sp__law_scaled K) []
  _law_plus_ : C8.Cal P w K mg base 1 "_law_plus" (sp__law_plus K) []
theorem der__law_laid {P : Program} {w : World} {K : PySem.W.Frag} {mg : Str → Option Value} {base : Heap} {f : Addr} (T : Gb mg) (C : C__law_laid P w K mg base) (cdv : Value) (A : Around) (outer : List Env) (s : Shared) (H : Hp) (E : XK) (hr : Room 2 (A.deeper (envOfC "_law_laid" (defScope s__law_laid) s.heap.objs.size f cdv))) :
    PSs (cxOf CX0 P w K mg base N__law_laid "_law_laid" (defScope s__law_laid) f cdv A outer s H E).nox (defBody s__law_laid) (t__law_laid K) :=
  (pss_cons (ps_set (i := 3) sc__law_laid.nd rfl (.inl rfl) (pe_callTy call_tuple_of (by rfl) T.tuple_ (by decide +kernel) (pa_cons (pe_lc (own := [("_law_place", 7)]) rfl sc__law_laid.nd (pi_range1 rfl T.range_ (pa_cons (pe_op op_sub (pe_op op_sub (pe_op op_add (pe_callB call_len_seq (by rfl) T.len_ (by decide +kernel) (pa_cons (pv 0) pa_nil)) (pe_callB call_len_seq (by rfl) T.len_ (by decide +kernel) (pa_cons (pv 1) pa_nil))) pe_int) (pe_op op_mul pe_int (pv 2))) pa_nil)) (blkOk_by (own := [("_law_place", 7)]) (N := N__law_laid) (sc := defScope s__law_laid) (by decide +kernel)) (fun _ _ _ _ _ => (pg_name (i := 7) sc__law_laid.nd rfl (Or.inl rfl))) (fun _ _ _ _ _ => pts_nil) (fun _ _ _ _ _ => pe_int)) pa_nil)))
      (pss_cons (ps_for PassesOwn.never rfl (pi_range1 rfl T.range_ (pa_cons (pe_op op_add (pv 2) pe_int) pa_nil)) (pg_name (i := 4) sc__law_laid.nd rfl (Or.inl rfl)) (pss_cons (ps_set (i := 5) sc__law_laid.nd rfl (.inl rfl) (C8.pe_c C._law_product_ hr (by decide) (by rfl) (pa_cons (C8.pe_c C._law_derived_ hr (by decide) (by rfl) (pa_cons (pv 0) (pa_cons (pe_op op_sub (pv 2) (pv 4)) (pa_cons (pv 4) pa_nil)))) (pa_cons (C8.pe_c C._law_derived_ hr (by decide) (by rfl) (pa_cons (pv 1) (pa_cons (pv 4) (pa_cons (pe_op op_sub (pv 2) (pv 4)) pa_nil)))) pa_nil))))
      (pss_cons (ps_set (i := 6) sc__law_laid.nd rfl (.inl rfl) (C8.pe_c C._law_choose_ hr (by decide) (by rfl) (pa_cons (pv 2) (pa_cons (pv 4) pa_nil))))
      (pss_one (ps_set (i := 3) sc__law_laid.nd rfl (.inl rfl) (C8.pe_c C._law_plus_ hr (by decide) (by rfl) (pa_cons (pv 3) (pa_cons (C8.pe_c C._law_scaled_ hr (by decide) (by rfl) (pa_cons (pv 5) (pa_cons (pe_ifExp (pt_cmpR op_eq (pe_op op_mod (pv 4) pe_int) pe_int (nomark _)) (pv 6) (pe_op op_sub pe_int (pv 6))) pa_nil))) pa_nil))))))))
      (pss_one (ps_ret (pv 3)))))
abbrev N__law_changed : List Str := ["_law_form_here", "_law_table_here", "_law_found", "_law_at", "_law_entry", "_law_piece"]
theorem sc__law_changed : FnScope N__law_changed ["_law_form_here", "_law_table_here"] (defScope s__law_changed) := ⟨rfl, rfl, rfl, by decide +kernel, rfl, by decide +kernel, by decide +kernel⟩
def t__law_changed (K : PySem.W.Frag) : TS := (tSeq (tAsg (tCB (rTupOf K) (tCons (tLc (iTup K (tVar 0)) (gName 4) tYes (tC (.int 0)) [4]) tNil)) (gName 2))
  (tSeq (tFor (iEnumT K (tCons (tVar 0) tNil)) (L2.gTup K 2 (gCons (gName 3) (gCons (gName 4) gNil))) (tSeq (tAsg (tCall (sp__law_product K) [] E0 (tCons (tCall (sp__law_power K) [] E0 (tCons (tOp (rIxT K) (tVar 1) (tC (.int 0))) (tCons (tOp rSubI (tOp rSubI (tCB (rLen K) (tCons (tVar 0) tNil)) (tC (.int 1))) (tVar 3)) tNil))) (tCons (tCall (sp__law_power K) [] E0 (tCons (tOp (rIxT K) (tVar 1) (tC (.int 1))) (tCons (tVar 3) tNil))) tNil))) (gName 5))
  (tAsg (tCall (sp__law_plus K) [] E0 (tCons (tVar 2) (tCons (tCall (sp__law_scaled K) [] E0 (tCons (tVar 5) (tCons (tVar 4) tNil))) tNil))) (gName 2))))
  (tRet (tVar 2))))
structure C__law_changed (P : Program) (w : World) (K : PySem.W.Frag) (mg : Str → Option Value) (base : Heap) : Prop where
  _law_power_ : C8.Cal P w K mg base 2 "_law_power" (sp__law_power K) []
  _law_product_ : C8.Cal P w K mg base 1 "_law_product" (sp__law_product K) []
  _law_scaled_ : C8.Cal P w K mg base 1 "_law_scaled" (sp__law_scaled K) []
  _law_plus_ : C8.Cal P w K mg base 1 "_law_plus" (sp__law_plus K) []
theorem der__law_changed {P : Program} {w : World} {K : PySem.W.Frag} {mg : Str → Option Value} {base : Heap} {f : Addr} (T : Gb mg) (C : C__law_changed P w K mg base) (cdv : Value) (A : Around) (outer : List Env) (s : Shared) (H : Hp) (E : XK) (hr : Room 2 (A.deeper (envOfC "_law_changed" (defScope s__law_changed) s.heap.objs.size f cdv))) :
    PSs (cxOf CX0 P w K mg base N__law_changed "_law_changed" (defScope s__law_changed) f cdv A outer s H E).nox (defBody s__law_changed) (t__law_changed K) :=
  (pss_cons (ps_set (i := 2) sc__law_changed.nd rfl (.inl rfl) (pe_callTy call_tuple_of (by rfl) T.tuple_ (by decide +kernel) (pa_cons (pe_lc (own := [("_law_entry", 4)]) rfl sc__law_changed.nd (pi_tup (pv 0)) (blkOk_by (own := [("_law_entry", 4)]) (N := N__law_changed) (sc := defScope s__law_changed) (by decide +kernel)) (fun _ _ _ _ _ => (pg_name (i := 4) sc__law_changed.nd rfl (Or.inl rfl))) (fun _ _ _ _ _ => pts_nil) (fun _ _ _ _ _ => pe_int)) pa_nil)))
      (pss_cons (ps_for PassesOwn.never rfl (pi_enumT (by rfl) T.enumerate_ (pa_cons (pv 0) pa_nil)) (pg_tup rfl (pgs_cons (pg_name (i := 3) sc__law_changed.nd rfl (Or.inl rfl)) (pgs_cons (pg_name (i := 4) sc__law_changed.nd rfl (Or.inl rfl)) pgs_nil))) (pss_cons (ps_set (i := 5) sc__law_changed.nd rfl (.inl rfl) (C8.pe_c C._law_product_ hr (by decide) (by rfl) (pa_cons (C8.pe_c C._law_power_ hr (by decide) (by rfl) (pa_cons (pe_ix ix_tup (pv 1) pe_int (fun _ _ => rfl)) (pa_cons (pe_op op_sub (pe_op op_sub (pe_callB call_len_seq (by rfl) T.len_ (by decide +kernel) (pa_cons (pv 0) pa_nil)) pe_int) (pv 3)) pa_nil))) (pa_cons (C8.pe_c C._law_power_ hr (by decide) (by rfl) (pa_cons (pe_ix ix_tup (pv 1) pe_int (fun _ _ => rfl)) (pa_cons (pv 3) pa_nil))) pa_nil))))
      (pss_one (ps_set (i := 2) sc__law_changed.nd rfl (.inl rfl) (C8.pe_c C._law_plus_ hr (by decide) (by rfl) (pa_cons (pv 2) (pa_cons (C8.pe_c C._law_scaled_ hr (by decide) (by rfl) (pa_cons (pv 5) (pa_cons (pv 4) pa_nil))) pa_nil)))))))
      (pss_one (ps_ret (pv 2)))))
theorem bw__law_power : BindsW "_law_power" s__law_power ["_law_pair", "_law_times"] := fun kV doc pm an cdv ct us h => by
  match us, h with
  | [_, _], _ => rfl
theorem bw__law_by_x : BindsW "_law_by_x" s__law_by_x ["_law_form_here"] := fun kV doc pm an cdv ct us h => by
  match us, h with
  | [_], _ => rfl
theorem bw__law_by_y : BindsW "_law_by_y" s__law_by_y ["_law_form_here"] := fun kV doc pm an cdv ct us h => by
  match us, h with
  | [_], _ => rfl
theorem bw__law_derived : BindsW "_law_derived" s__law_derived ["_law_form_here", "_law_one", "_law_other"] := fun kV doc pm an cdv ct us h => by
  match us, h with
  | [_, _, _], _ => rfl
theorem bw__law_laid : BindsW "_law_laid" s__law_laid ["_law_one", "_law_other", "_law_times"] := fun kV doc pm an cdv ct us h => by
  match us, h with
  | [_, _, _], _ => rfl
theorem bw__law_changed : BindsW "_law_changed" s__law_changed ["_law_form_here", "_law_table_here"] := fun kV doc pm an cdv ct us h => by
  match us, h with
  | [_, _], _ => rfl
section
variable {P : Program} {w : World} {K : PySem.W.Frag} {mg : Str → Option Value} {base : Heap}
theorem cal__law_power (T : Gb mg) (C : C__law_power P w K mg base) (D : Dfn K mg "_law_power" s__law_power) : C8.Cal P w K mg base 2 "_law_power" (sp__law_power K) [] :=
  calP D sc__law_power bw__law_power (by rintro Rs R ⟨x, n, rfl, _⟩; rfl) (fun f cdv A outer s H E hr => der__law_power T C cdv A outer s H E hr) (by
    rintro Rs R ⟨f, n, rfl, h1, h3, hn, hf, rfl⟩ H0 σ H a Q q
    have hl : ∀ i, i ≤ n → i * (f.length - 1) ≤ 12 := fun i hi => by
      have : i * (f.length - 1) ≤ 6 * 2 := Nat.mul_le_mul (by omega) (by omega)
      omega
    refine w_seq (w_set a (e_tup1 (K := K) e_c) fun σ1 H1 a1 => w_seq (w_for a1 (ij_rngN (a_cons (e_var rfl) a_nil) rfl (by omega)) (fun i => [some (TuI K f), some (IsI (n : Int)), some (TuI K (powL f i)), none]) (fun i => [some (TuI K f), some (IsI (n : Int)), some (TuI K (powL f i)), some (IsI (i : Int))]) (fun _ => []) (fun c σ H b => b.wk ?_) (fun i m hm => by cases hm) (fun i hi c => g_name) (fun i hi gg nx' bk' ct' σ H b k => w_set b (e_call (a_cons (e_var rfl) (a_cons (e_var rfl) a_nil)) ⟨_, _, rfl, ?_, h1, ?_, ?_, ?_, ?_, rfl⟩) fun σ' H' b' => k σ' H' (b'.wk ?_)) fun σ H b => w_ret b (e_var rfl) fun v H' a' p => q v H' a'.kp a'.me p))
    · walk_at "wk"
    · exact powL_pos h1 i
    · rw [powL_length h1]; have := hl i (by omega); omega
    · omega
    · refine (bd_powL hf h1 i ?_).mono ?_
      · have := hl i (by omega); omega
      · omega
    · exact hf.mono (by omega)
    · walk_at "wk")
theorem cal__law_by_x (T : Gb mg) (D : Dfn K mg "_law_by_x" s__law_by_x) : C8.Cal P w K mg base 1 "_law_by_x" (sp__law_by_x K) [] :=
  calP D sc__law_by_x bw__law_by_x (by rintro Rs R ⟨x, rfl, _⟩; rfl) (fun f cdv A outer s H E hr => der__law_by_x T cdv A outer s H E hr) (by
    rintro Rs R ⟨f, rfl, h1, h2, hf, rfl⟩ H0 σ H a Q q
    refine w_ret a (R := TuI K (dX f)) ?_ fun v H' a' p => q v H' a'.kp a'.me p
    refine e_tupOfI (ns := dX f) ?_
    have hlen : (f.take (f.length - 1)).length = f.length - 1 := by simp
    have hI := ij_enumI (K := K) (c := ⟨H0, [], []⟩) (rs := rs0 N__law_by_x.length [TuI K f]) (ms := []) (e_slHead (e_var (i := 0) rfl) (e_neg (i := 1) e_c) h1)
    rw [hlen] at hI
    refine' el_lcI0 (f := fun i => co f i * ((f.length : Int) - 1 - (i : Int))) hI (by omega) (fun i hi c ms => ?hg) (fun i hi y D acc => ?he) rfl
    case hg => walk_at "ev"
    case he =>
      have e : co (f.take (f.length - 1)) i = co f i := by
        rw [co_lt (by omega), co_lt (by omega)]; simp
      rw [e]
      refine e_opI (e_var rfl) (e_opI0 (e_opI0 (e_lenI (e_var rfl)) e_c) (e_var rfl)) (.inr ?_)
      omega)
theorem cal__law_by_y (T : Gb mg) (D : Dfn K mg "_law_by_y" s__law_by_y) : C8.Cal P w K mg base 1 "_law_by_y" (sp__law_by_y K) [] :=
  calP D sc__law_by_y bw__law_by_y (by rintro Rs R ⟨x, rfl, _⟩; rfl) (fun f cdv A outer s H E hr => der__law_by_y T cdv A outer s H E hr) (by
    rintro Rs R ⟨f, rfl, h1, h2, hf, rfl⟩ H0 σ H a Q q
    refine w_ret a (R := TuI K (dY f)) ?_ fun v H' a' p => q v H' a'.kp a'.me p
    refine e_tupOfI (ns := dY f) ?_
    have hlen : (f.drop 1).length = f.length - 1 := by simp
    have hI := ij_enumI (K := K) (c := ⟨H0, [], []⟩) (rs := rs0 N__law_by_y.length [TuI K f]) (ms := []) (e_slTail (e_var (i := 0) rfl) e_c h1)
    rw [hlen] at hI
    refine' el_lcI0 (f := fun i => co f (i + 1) * ((i : Int) + 1)) hI (by omega) (fun i hi c ms => ?hg) (fun i hi y D acc => ?he) rfl
    case hg => walk_at "ev"
    case he =>
      have e : co (f.drop 1) i = co f (i + 1) := by
        rw [co_lt (by omega), co_lt (by omega)]; simp [Nat.add_comm]
      rw [e]
      refine e_opI (e_var rfl) (e_opI0 (e_var rfl) e_c) (.inr ?_)
      omega)
theorem cal__law_derived (T : Gb mg) (C : C__law_derived P w K mg base) (D : Dfn K mg "_law_derived" s__law_derived) : C8.Cal P w K mg base 2 "_law_derived" (sp__law_derived K) [] :=
  calP D sc__law_derived bw__law_derived (by rintro Rs R ⟨x, a, b, rfl, _⟩; rfl) (fun f cdv A outer s H E hr => der__law_derived T C cdv A outer s H E hr) (by
    rintro Rs R ⟨f, m, n, rfl, hmn, hl, hf, rfl⟩ H0 σ H a Q q
    refine w_seq (w_for a (ij_rngN (m := m) (a_cons (e_var rfl) a_nil) rfl (by omega)) (fun i => [some (TuI K (itX i f)), some (IsI (m : Int)), some (IsI (n : Int)), none]) (fun i => [some (TuI K (itX i f)), some (IsI (m : Int)), some (IsI (n : Int)), some (IsI (i : Int))]) (fun _ => []) (fun c σ H b => b.wk ?_) (fun i m hm => by cases hm) (fun i hi c => g_name) (fun i hi gg nx' bk' ct' σ H b k => w_set b (e_call (a_cons (e_var rfl) a_nil) ⟨_, rfl, ?_, ?_, ?_, rfl⟩) fun σ' H' b' => k σ' H' (b'.wk ?_)) fun σ H b => ?_)
    · walk_at "wk"
    · rw [itX_length]; omega
    · rw [itX_length]; omega
    · exact (bd_itX hf (by omega) i).mono (by omega)
    · walk_at "wk"
    refine w_seq (w_for b (ij_rngN (m := n) (a_cons (e_var rfl) a_nil) rfl (by omega)) (fun i => [some (TuI K (itY i (itX m f))), some (IsI (m : Int)), some (IsI (n : Int)), none]) (fun i => [some (TuI K (itY i (itX m f))), some (IsI (m : Int)), some (IsI (n : Int)), some (IsI (i : Int))]) (fun _ => []) (fun c σ H b => b.wk ?_) (fun i m hm => by cases hm) (fun i hi c => g_name) (fun i hi gg nx' bk' ct' σ H b k => w_set b (e_call (a_cons (e_var rfl) a_nil) ⟨_, rfl, ?_, ?_, ?_, rfl⟩) fun σ' H' b' => k σ' H' (b'.wk ?_)) fun σ H b => w_ret b (e_var rfl) fun v H' a' p => q v H' a'.kp a'.me p)
    · walk_at "wk"
    · rw [itY_length, itX_length]; omega
    · rw [itY_length, itX_length]; omega
    · exact (bd_itY (bd_itX hf (by omega) m) (by rw [itX_length]; omega) i).mono (by omega)
    · walk_at "wk")
theorem cal__law_laid (T : Gb mg) (C : C__law_laid P w K mg base) (D : Dfn K mg "_law_laid" s__law_laid) : C8.Cal P w K mg base 3 "_law_laid" (sp__law_laid K) [] :=
  calP D sc__law_laid bw__law_laid (by rintro Rs R ⟨x, a, b, rfl, _⟩; rfl) (fun f cdv A outer s H E hr => der__law_laid T C cdv A outer s H E hr) (by
    rintro Rs R ⟨f, g, k, rfl, hf, hg, hk, hfl, hgl, bf, bg, rfl⟩ H0 σ H a Q q
    have hN := fun i (hi : i ≤ k + 1) => laidN_length hf hg hi
    refine w_seq (w_set (R := TuI K (laidN k f g 0)) a (e_tupOfI ?_) fun σ1 H1 a1 => ?_)
    · refine' el_lcI0 (n := f.length + g.length - 1 - 2 * k) (f := fun i => 0) (ij_rngN (n := (f.length : Int) + (g.length : Int) - 1 - 2 * (k : Int)) ?hi (by omega) (by omega)) (by omega) (fun i hi c ms => ?hg) (fun i hi y D acc => ?he) ?_
      case hi => exact a_cons (e_opI0 (e_opI0 (e_opI0 (e_lenI (e_var rfl)) (e_lenI (e_var rfl))) e_c) (e_opI e_c (e_var rfl) (.inl (by decide)))) a_nil
      case hg => walk_at "ev"
      case he => walk_at "ev"
      exact List.ext_getElem (by simp [laidN, zeros, tab]) fun i h1 h2 => by simp [laidN, zeros, tab]
    refine w_seq (w_for a1 (ij_rngN (n := (k : Int) + 1) (m := k + 1) (a_cons (e_opI0 (e_var rfl) e_c) a_nil) (by omega) (by omega)) (fun i => [some (TuI K f), some (TuI K g), some (IsI (k : Int)), some (TuI K (laidN k f g i)), none, none, none, none]) (fun i => [some (TuI K f), some (TuI K g), some (IsI (k : Int)), some (TuI K (laidN k f g i)), some (IsI (i : Int)), none, none, none]) (fun _ => []) (fun c σ H b => b.wk ?_) (fun i m hm => by cases hm) (fun i hi c => g_name) (fun i hi gg nx' bk' ct' σ H b kk => ?_) fun σ H b => w_ret b (e_var rfl) fun v H' a' p => q v H' a'.kp a'.me p)
    · walk_at "wk"
    · have hik : i ≤ k := by omega
      have e1 : ((k : Int) - (i : Int)) = ((k - i : Nat) : Int) := by omega
      refine w_seq (w_set b (R := TuI K (lpiece k f g i)) (e_call (a_cons (R := TuI K (dXY f (k - i) i)) (e_call (a_cons (e_var rfl) (a_cons (R := IsI ((k - i : Nat) : Int)) (e1 ▸ e_opI0 (e_var rfl) (e_var rfl)) (a_cons (e_var rfl) a_nil))) ⟨_, _, _, rfl, ?_, ?_, ?_, rfl⟩) (a_cons (R := TuI K (dXY g i (k - i))) (e_call (a_cons (e_var rfl) (a_cons (e_var rfl) (a_cons (R := IsI ((k - i : Nat) : Int)) (e1 ▸ e_opI0 (e_var rfl) (e_var rfl)) a_nil))) ⟨_, _, _, rfl, ?_, ?_, ?_, rfl⟩) a_nil)) ⟨_, _, rfl, ?_, ?_, ?_, ?_, ?_, ?_, rfl⟩) fun σ2 H2 b2 => ?_)
      · omega
      · omega
      · exact bf.mono (by omega)
      · omega
      · omega
      · exact bg.mono (by omega)
      · rw [dXY_length]; omega
      · rw [dXY_length]; omega
      · rw [dXY_length]; omega
      · rw [dXY_length]; omega
      · exact (bd_dXY bf (by omega) _ _).mono (by omega)
      · exact (bd_dXY bg (by omega) _ _).mono (by omega)
      refine w_seq (w_set b2 (e_call (a_cons (e_var rfl) (a_cons (e_var rfl) a_nil)) ⟨_, _, rfl, hik, hk, rfl⟩) fun σ3 H3 b3 => ?_)
      refine w_set b3 (R := TuI K (laidN k f g (i + 1))) (e_call (a_cons (e_var rfl) (a_cons (R := TuI K (scaled (lpiece k f g i) (sg k i))) (e_call (a_cons (e_var rfl) (a_cons (R := IsI (sg k i)) (e_if (b := decide ((i : Int) % 2 = 0)) (t_test (e_eqI (e_opI (e_var rfl) e_c (by decide)) e_c)) ?_ ?_) a_nil)) ⟨_, _, rfl, ?_, ?_, ?_, rfl⟩) a_nil)) ⟨_, _, rfl, ?_, rfl⟩) fun σ4 H4 b4 => kk σ4 H4 (b4.wk ?_)
      · intro e
        have e := of_decide_eq_true e
        have : sg k i = lots k i := by unfold sg; rw [if_pos (by omega)]
        rw [this]; exact e_var rfl
      · intro e
        have e := of_decide_eq_false e
        have : sg k i = 0 - lots k i := by unfold sg; rw [if_neg (by omega)]
        rw [this]; exact e_opI0 e_c (e_var rfl)
      · rw [lpiece_length hf hg hik]; omega
      · exact (bd_lpiece bf bg (by omega) hik).mono (by omega)
      · exact Nat.lt_of_lt_of_le (lots_lt hk hik) (Nat.pow_le_pow_right (by decide) (by decide))
      · rw [hN i (by omega)]; omega
      · walk_at "wk")
theorem cal__law_changed (T : Gb mg) (C : C__law_changed P w K mg base) (D : Dfn K mg "_law_changed" s__law_changed) : C8.Cal P w K mg base 3 "_law_changed" (sp__law_changed K) [] :=
  calP D sc__law_changed bw__law_changed (by rintro Rs R ⟨x, a, b, c, d, rfl, _⟩; rfl) (fun f cdv A outer s H E hr => der__law_changed T C cdv A outer s H E hr) (by
    rintro Rs R ⟨f, t1, t2, t3, t4, rfl, hl1, hl7, bf, ba, bb, rfl⟩ H0 σ H a Q q
    refine w_seq (w_set (R := TuI K (changedN [t1, t2] [t3, t4] f 0)) a (e_tupOfI ?_) fun σ1 H1 a1 => ?_)
    · refine' el_lcI0 (n := f.length) (f := fun i => 0) (ij_tupI ?hi) (by omega) (fun i hi c ms => ?hg) (fun i hi y D acc => ?he) ?_
      case hi => walk_at "ev"
      case hg => walk_at "ev"
      case he => walk_at "ev"
      exact List.ext_getElem (by simp [changedN, zeros, tab]) fun i h1 h2 => by simp [changedN, zeros, tab]
    refine w_seq (w_for a1 (ij_enumI (e_var rfl)) (fun i => [some (TuI K f), some (TabR K t1 t2 t3 t4), some (TuI K (changedN [t1, t2] [t3, t4] f i)), none, none, none]) (fun i => [some (TuI K f), some (TabR K t1 t2 t3 t4), some (TuI K (changedN [t1, t2] [t3, t4] f i)), some (IsI (i : Int)), some (IsI (co f i)), none]) (fun _ => []) (fun c σ H b => b.wk ?_) (fun i m hm => by cases hm) (fun i hi c => g_pair) (fun i hi gg nx' bk' ct' σ H b kk => ?_) fun σ H b => w_ret b (e_var rfl) fun v H' a' p => q v H' a'.kp a'.me p)
    · walk_at "wk"
    · have e1 : ((f.length : Int) - 1 - (i : Int)) = ((f.length - 1 - i : Nat) : Int) := by omega
      have l1 := powL_length2 (a := [t1, t2]) rfl (f.length - 1 - i)
      have l2 := powL_length2 (a := [t3, t4]) rfl i
      have pl := piece_length (a := [t1, t2]) (b := [t3, t4]) rfl rfl f hi
      have cl := changedN_length (a := [t1, t2]) (b := [t3, t4]) rfl rfl f (i := i) (by omega)
      have p1 := (bd_powL ba (by simp) (f.length - 1 - i) (by show (f.length - 1 - i) * 1 + 1 + 2 ≤ 64; omega))
      have p2 := (bd_powL bb (by simp) i (by show i * 1 + 1 + 2 ≤ 64; omega))
      refine w_seq (w_set b (R := TuI K (piece [t1, t2] [t3, t4] f i)) (e_call (a_cons (R := TuI K (powL [t1, t2] (f.length - 1 - i))) (e_call (a_cons (e_ixR (e_var rfl) e_c (by decide) rfl) (a_cons (R := IsI ((f.length - 1 - i : Nat) : Int)) (e1 ▸ e_opI0 (e_opI0 (e_lenI (e_var rfl)) e_c) (e_var rfl)) a_nil)) ⟨_, _, rfl, ?_, ?_, ?_, ?_, rfl⟩) (a_cons (R := TuI K (powL [t3, t4] i)) (e_call (a_cons (e_ixR (e_var rfl) e_c (by decide) rfl) (a_cons (e_var rfl) a_nil)) ⟨_, _, rfl, ?_, ?_, ?_, ?_, rfl⟩) a_nil)) ⟨_, _, rfl, ?_, ?_, ?_, ?_, ?_, ?_, rfl⟩) fun σ2 H2 b2 => ?_)
      · simp
      · simp
      · omega
      · exact ba.mono (by omega)
      · simp
      · simp
      · omega
      · exact bb.mono (by omega)
      · omega
      · omega
      · omega
      · omega
      · exact p1.mono (by omega)
      · exact p2.mono (by omega)
      refine w_set b2 (R := TuI K (changedN [t1, t2] [t3, t4] f (i + 1))) (e_call (a_cons (e_var rfl) (a_cons (R := TuI K (scaled (piece [t1, t2] [t3, t4] f i) (co f i))) (e_call (a_cons (e_var rfl) (a_cons (e_var rfl) a_nil)) ⟨_, _, rfl, ?_, ?_, ?_, rfl⟩) a_nil)) ⟨_, _, rfl, ?_, rfl⟩) fun σ4 H4 b4 => kk σ4 H4 (b4.wk ?_)
      · omega
      · exact (bd_prod p1 p2 (by omega)).mono (by omega)
      · exact Nat.lt_of_lt_of_le (bf i) (Nat.pow_le_pow_right (by decide) (by omega))
      · omega
      · walk_at "wk")
end
end K45
namespace K45
open PySem PySem.Spec PyProof.Rows L2
local macro_rules | `(tactic| walk_at "ev") => `(tactic| repeat' first
  | exact e_var rfl | exact e_c | exact a_nil | refine a_cons ?_ ?_
  | refine e_opI0 ?_ ?_ | refine e_opI ?_ ?_ ?_ | refine e_eqI ?_ ?_ | refine e_neI ?_ ?_ | refine e_neg ?_
  | refine e_lenI ?_ | refine e_lenR ?_ | refine e_abs ?_ | refine e_max ?_ ?_ | refine e_min ?_ ?_ | refine e_intB ?_ | refine e_intI ?_
  | refine e_chain ?_ ?_ ?_ | refine e_ixI ?_ ?_ ?_ ?_ | refine e_ixR ?_ ?_ ?_ ?_
  | refine e_slHead ?_ ?_ ?_ | refine e_slTail ?_ ?_ ?_
  | refine t_test ?_ | refine t_b ?_ | refine e_ifI ?_ ?_ ?_
  | refine ij_zipT ?_ ?_ | refine ij_tupI ?_ | refine ij_rng ?_ ?_
  | exact g_name | exact g_pair)
local macro_rules | `(tactic| walk_at "evn") => `(tactic| repeat' first
  | exact e_var rfl | exact EJ.any e_c | exact EJ.any (e_var rfl) | exact EJ.anyN (e_var rfl) | refine e_diceC (d := ‹Addr›) List.mem_cons_self ?_ (by decide) | refine e_mulL (φ := fun _ => True) (by decide) ?_ | refine e_mulR (φ := fun _ => True) (by decide) ?_ | exact e_c
  | refine e_a0 ?_ ?_ | refine e_intN ?_)
local macro_rules | `(tactic| walk_at "wk") => `(tactic| repeat' first | exact wk_nil | refine wk_none ?_ | refine wk_some (fun _ _ h => h) ?_)
abbrev N__law_plain : List Str := ["_law_form_here", "_law_part", "_law_first", "_law_entry"]
theorem sc__law_plain : FnScope N__law_plain ["_law_form_here"] (defScope s__law_plain) := ⟨rfl, rfl, rfl, by decide +kernel, rfl, by decide +kernel, by decide +kernel⟩
def t__law_plain (K : PySem.W.Frag) : TS := (tSeq (tAsg (tCall (sp__law_shared K) [] E0 (tCons (tVar 0) tNil)) (gName 1))
  (tSeq (tIfS (tTest (tOp rEq (tVar 1) (tC (.int 0)))) (tRet (tVar 0)) tNext)
  (tSeq (tAsg (tOp (rIxL K) (tLc (iTup K (tVar 0)) (gName 3) (tTest (tOp rNe (tVar 3) (tC (.int 0)))) (tVar 3) [3]) (tC (.int 0))) (gName 2))
  (tRet (tCB (rTupOf K) (tCons (tLc (iTup K (tVar 0)) (gName 3) tYes (tOp rDivN (tVar 3) (tIf (tTest (tOp rGtB (tVar 2) (tC (.int 0)))) (tVar 1) (tOp rSubI (tC (.int 0)) (tVar 1)))) [3]) tNil))))))
structure C__law_plain (P : Program) (w : World) (K : PySem.W.Frag) (mg : Str → Option Value) (base : Heap) : Prop where
  _law_shared_ : C8.Cal P w K mg base 2 "_law_shared" (sp__law_shared K) []
theorem der__law_plain {P : Program} {w : World} {K : PySem.W.Frag} {mg : Str → Option Value} {base : Heap} {f : Addr} (T : Gb mg) (C : C__law_plain P w K mg base) (cdv : Value) (A : Around) (outer : List Env) (s : Shared) (H : Hp) (E : XK) (hr : Room 2 (A.deeper (envOfC "_law_plain" (defScope s__law_plain) s.heap.objs.size f cdv))) :
    PSs (cxOf CX0 P w K mg base N__law_plain "_law_plain" (defScope s__law_plain) f cdv A outer s H E).nox (defBody s__law_plain) (t__law_plain K) :=
  (pss_cons (ps_set (i := 1) sc__law_plain.nd rfl (.inr rfl) (C8.pe_c C._law_shared_ hr (by decide) (by rfl) (pa_cons (pv 0) pa_nil)))
      (pss_cons (ps_if (pt_cmpR op_eq (pv 1) pe_int (nomark _)) (pss_one (ps_ret (pv 0))) pss_nil)
      (pss_cons (ps_set (i := 2) sc__law_plain.nd rfl (.inr rfl) (pe_ix ix_list (pe_lc (own := [("_law_entry", 3)]) rfl sc__law_plain.nd (pi_tup (pv 0)) (blkOk_by (own := [("_law_entry", 3)]) (N := N__law_plain) (sc := defScope s__law_plain) (by decide +kernel)) (fun _ _ _ _ _ => (pg_name (i := 3) sc__law_plain.nd rfl (Or.inl rfl))) (fun _ _ _ _ _ => (pts_one (pt_cmpR op_ne (pv 3) pe_int (nomark _)))) (fun _ _ _ _ _ => (pv 3))) pe_int (fun _ _ => rfl)))
      (pss_one (ps_ret (pe_callTy call_tuple_of (by rfl) T.tuple_ (by decide +kernel) (pa_cons (pe_lc (own := [("_law_entry", 3)]) rfl sc__law_plain.nd (pi_tup (pv 0)) (blkOk_by (own := [("_law_entry", 3)]) (N := N__law_plain) (sc := defScope s__law_plain) (by decide +kernel)) (fun _ _ _ _ _ => (pg_name (i := 3) sc__law_plain.nd rfl (Or.inl rfl))) (fun _ _ _ _ _ => pts_nil) (fun _ _ _ _ _ => (pe_op op_fdivN (pv 3) (pe_ifExp (pt_cmpR op_gt (pv 2) pe_int (nomark _)) (pv 1) (pe_op op_sub pe_int (pv 1)))))) pa_nil)))))))
abbrev N__law_line : List Str := ["_law_point_here"]
theorem sc__law_line : FnScope N__law_line ["_law_point_here"] (defScope s__law_line) := ⟨rfl, rfl, rfl, by decide +kernel, rfl, by decide +kernel, by decide +kernel⟩
def t__law_line (K : PySem.W.Frag) : TS := (tRet (tTup (tCons (tOp (rIxT K) (tVar 0) (tC (.int 1))) (tCons (tOp rSubI (tC (.int 0)) (tOp (rIxT K) (tVar 0) (tC (.int 0)))) tNil))))
theorem der__law_line {P : Program} {w : World} {K : PySem.W.Frag} {mg : Str → Option Value} {base : Heap} {f : Addr} (T : Gb mg) (cdv : Value) (A : Around) (outer : List Env) (s : Shared) (H : Hp) (E : XK) (hr : Room 0 (A.deeper (envOfC "_law_line" (defScope s__law_line) s.heap.objs.size f cdv))) :
    PSs (cxOf CX0 P w K mg base N__law_line "_law_line" (defScope s__law_line) f cdv A outer s H E).nox (defBody s__law_line) (t__law_line K) :=
  (pss_one (ps_ret (pe_tup (pa_cons (pe_ix ix_tup (pv 0) pe_int (fun _ _ => rfl)) (pa_cons (pe_op op_sub pe_int (pe_ix ix_tup (pv 0) pe_int (fun _ _ => rfl))) pa_nil)))))
abbrev N__law_point : List Str := ["_law_dice_here", "_law_most", "_law_one", "_law_other"]
theorem sc__law_point : FnScope N__law_point ["_law_dice_here", "_law_most"] (defScope s__law_point) := ⟨rfl, rfl, rfl, by decide +kernel, rfl, by decide +kernel, by decide +kernel⟩
def t__law_point (K : PySem.W.Frag) : TS := (tSeq (tPar 2 3 (tCons (tCall (sp__law_near K) [] E0 (tCons (tVar 0) (tCons (tVar 1) tNil))) (tCons (tCall (sp__law_near K) [] E0 (tCons (tVar 0) (tCons (tVar 1) tNil))) tNil)))
  (tRet (tIf (tTest (tOp (rNeD K) (tTup (tCons (tVar 2) (tCons (tVar 3) tNil))) (tTup (tCons (tC (.int 0)) (tCons (tC (.int 0)) tNil))))) (tCall (sp__law_plain K) [] E0 (tCons (tTup (tCons (tVar 2) (tCons (tVar 3) tNil))) tNil)) (tTup (tCons (tC (.int 1)) (tCons (tC (.int 0)) tNil))))))
structure C__law_point (P : Program) (w : World) (K : PySem.W.Frag) (mg : Str → Option Value) (base : Heap) : Prop where
  _law_near_ : C8.Cal P w K mg base 2 "_law_near" (sp__law_near K) []
  _law_plain_ : C8.Cal P w K mg base 3 "_law_plain" (sp__law_plain K) []
theorem der__law_point {P : Program} {w : World} {K : PySem.W.Frag} {mg : Str → Option Value} {base : Heap} {f : Addr} (T : Gb mg) (C : C__law_point P w K mg base) (cdv : Value) (A : Around) (outer : List Env) (s : Shared) (H : Hp) (E : XK) (hr : Room 3 (A.deeper (envOfC "_law_point" (defScope s__law_point) s.heap.objs.size f cdv))) :
    PSs (cxOf CX0 P w K mg base N__law_point "_law_point" (defScope s__law_point) f cdv A outer s H E).nox (defBody s__law_point) (t__law_point K) :=
  (pss_cons (ps_par (i := 2) (j := 3) rfl sc__law_point.nd rfl rfl (by decide) rfl rfl (pa_cons (C8.pe_c C._law_near_ hr (by decide) (by rfl) (pa_cons (pv 0) (pa_cons (pv 1) pa_nil))) (pa_cons (C8.pe_c C._law_near_ hr (by decide) (by rfl) (pa_cons (pv 0) (pa_cons (pv 1) pa_nil))) pa_nil)) rfl)
      (pss_one (ps_ret (pe_ifExp (pt_cmpR (op_neD hr.units) (pe_tup (pa_cons (pv 2) (pa_cons (pv 3) pa_nil))) (pe_tup (pa_cons pe_int (pa_cons pe_int pa_nil))) (nomark _)) (C8.pe_c C._law_plain_ hr (by decide) (by rfl) (pa_cons (pe_tup (pa_cons (pv 2) (pa_cons (pv 3) pa_nil))) pa_nil)) (pe_tup (pa_cons pe_int (pa_cons pe_int pa_nil)))))))
abbrev N__law_small_form : List Str := ["_law_dice_here", "_law_degree", "_law_most", "_law_place"]
theorem sc__law_small_form : FnScope N__law_small_form ["_law_dice_here", "_law_degree", "_law_most"] (defScope s__law_small_form) := ⟨rfl, rfl, rfl, by decide +kernel, rfl, by decide +kernel, by decide +kernel⟩
def t__law_small_form (K : PySem.W.Frag) : TS := (tRet (tCB (rTupOf K) (tCons (tLc (iRng1 (tCons (tOp rAddI (tVar 1) (tC (.int 1))) tNil)) (gName 3) tYes (tCall (sp__law_near K) [] E0 (tCons (tVar 0) (tCons (tVar 2) tNil))) [3]) tNil)))
structure C__law_small_form (P : Program) (w : World) (K : PySem.W.Frag) (mg : Str → Option Value) (base : Heap) : Prop where
  _law_near_ : C8.Cal P w K mg base 2 "_law_near" (sp__law_near K) []
theorem der__law_small_form {P : Program} {w : World} {K : PySem.W.Frag} {mg : Str → Option Value} {base : Heap} {f : Addr} (T : Gb mg) (C : C__law_small_form P w K mg base) (cdv : Value) (A : Around) (outer : List Env) (s : Shared) (H : Hp) (E : XK) (hr : Room 2 (A.deeper (envOfC "_law_small_form" (defScope s__law_small_form) s.heap.objs.size f cdv))) :
    PSs (cxOf CX0 P w K mg base N__law_small_form "_law_small_form" (defScope s__law_small_form) f cdv A outer s H E).nox (defBody s__law_small_form) (t__law_small_form K) :=
  (pss_one (ps_ret (pe_callTy call_tuple_of (by rfl) T.tuple_ (by decide +kernel) (pa_cons (pe_lc (own := [("_law_place", 3)]) rfl sc__law_small_form.nd (pi_range1 rfl T.range_ (pa_cons (pe_op op_add (pv 1) pe_int) pa_nil)) (blkOk_by (own := [("_law_place", 3)]) (N := N__law_small_form) (sc := defScope s__law_small_form) (by decide +kernel)) (fun _ _ _ _ _ => (pg_name (i := 3) sc__law_small_form.nd rfl (Or.inl rfl))) (fun _ _ _ _ _ => pts_nil) (fun _ _ _ _ _ => (C8.pe_c C._law_near_ hr (by decide) (by rfl) (pa_cons (pv 0) (pa_cons (pv 2) pa_nil))))) pa_nil))))
abbrev N__law_all_product : List Str := ["_law_forms", "_law_found", "_law_form_here"]
theorem sc__law_all_product : FnScope N__law_all_product ["_law_forms"] (defScope s__law_all_product) := ⟨rfl, rfl, rfl, by decide +kernel, rfl, by decide +kernel, by decide +kernel⟩
def t__law_all_product (K : PySem.W.Frag) : TS := (tSeq (tAsg (tTup (tCons (tC (.int 1)) tNil)) (gName 1))
  (tSeq (tFor (iList K (tVar 0)) (gName 2) (tAsg (tCall (sp__law_product K) [] E0 (tCons (tVar 1) (tCons (tVar 2) tNil))) (gName 1)))
  (tRet (tVar 1))))
structure C__law_all_product (P : Program) (w : World) (K : PySem.W.Frag) (mg : Str → Option Value) (base : Heap) : Prop where
  _law_product_ : C8.Cal P w K mg base 1 "_law_product" (sp__law_product K) []
theorem der__law_all_product {P : Program} {w : World} {K : PySem.W.Frag} {mg : Str → Option Value} {base : Heap} {f : Addr} (T : Gb mg) (C : C__law_all_product P w K mg base) (cdv : Value) (A : Around) (outer : List Env) (s : Shared) (H : Hp) (E : XK) (hr : Room 1 (A.deeper (envOfC "_law_all_product" (defScope s__law_all_product) s.heap.objs.size f cdv))) :
    PSs (cxOf CX0 P w K mg base N__law_all_product "_law_all_product" (defScope s__law_all_product) f cdv A outer s H E).nox (defBody s__law_all_product) (t__law_all_product K) :=
  (pss_cons (ps_set (i := 1) sc__law_all_product.nd rfl (.inl rfl) (pe_tup (pa_cons pe_int pa_nil)))
      (pss_cons (ps_for PassesOwn.never rfl (pi_list (pv 0)) (pg_name (i := 2) sc__law_all_product.nd rfl (Or.inl rfl)) (pss_one (ps_set (i := 1) sc__law_all_product.nd rfl (.inl rfl) (C8.pe_c C._law_product_ hr (by decide) (by rfl) (pa_cons (pv 1) (pa_cons (pv 2) pa_nil))))))
      (pss_one (ps_ret (pv 1)))))
abbrev N__law_table : List Str := ["_law_dice_here", "_law_most", "_law_found", "_law_row"]
theorem sc__law_table : FnScope N__law_table ["_law_dice_here", "_law_most"] (defScope s__law_table) := ⟨rfl, rfl, rfl, by decide +kernel, rfl, by decide +kernel, by decide +kernel⟩
def t__law_table (K : PySem.W.Frag) : TS := (tSeq (tAsg (tCB (rTupOf K) (tCons (tLc (iRng1 (tCons (tC (.int 2)) tNil)) (gName 3) tYes (tTup (tCons (tCall (sp__law_near K) [] E0 (tCons (tVar 0) (tCons (tVar 1) tNil))) (tCons (tCall (sp__law_near K) [] E0 (tCons (tVar 0) (tCons (tVar 1) tNil))) tNil))) [3]) tNil)) (gName 2))
  (tRet (tIf (tTest (tOp rNe (tOp rMulI (tOp (rIxT K) (tOp (rIxT K) (tVar 2) (tC (.int 0))) (tC (.int 0))) (tOp (rIxT K) (tOp (rIxT K) (tVar 2) (tC (.int 1))) (tC (.int 1)))) (tOp rMulI (tOp (rIxT K) (tOp (rIxT K) (tVar 2) (tC (.int 0))) (tC (.int 1))) (tOp (rIxT K) (tOp (rIxT K) (tVar 2) (tC (.int 1))) (tC (.int 0)))))) (tVar 2) (tTup (tCons (tTup (tCons (tC (.int 1)) (tCons (tC (.int 1)) tNil))) (tCons (tTup (tCons (tC (.int 0)) (tCons (tC (.int 1)) tNil))) tNil))))))
structure C__law_table (P : Program) (w : World) (K : PySem.W.Frag) (mg : Str → Option Value) (base : Heap) : Prop where
  _law_near_ : C8.Cal P w K mg base 2 "_law_near" (sp__law_near K) []
theorem der__law_table {P : Program} {w : World} {K : PySem.W.Frag} {mg : Str → Option Value} {base : Heap} {f : Addr} (T : Gb mg) (C : C__law_table P w K mg base) (cdv : Value) (A : Around) (outer : List Env) (s : Shared) (H : Hp) (E : XK) (hr : Room 2 (A.deeper (envOfC "_law_table" (defScope s__law_table) s.heap.objs.size f cdv))) :
    PSs (cxOf CX0 P w K mg base N__law_table "_law_table" (defScope s__law_table) f cdv A outer s H E).nox (defBody s__law_table) (t__law_table K) :=
  (pss_cons (ps_set (i := 2) sc__law_table.nd rfl (.inl rfl) (pe_callTy call_tuple_of (by rfl) T.tuple_ (by decide +kernel) (pa_cons (pe_lc (own := [("_law_row", 3)]) rfl sc__law_table.nd (pi_range1 rfl T.range_ (pa_cons pe_int pa_nil)) (blkOk_by (own := [("_law_row", 3)]) (N := N__law_table) (sc := defScope s__law_table) (by decide +kernel)) (fun _ _ _ _ _ => (pg_name (i := 3) sc__law_table.nd rfl (Or.inl rfl))) (fun _ _ _ _ _ => pts_nil) (fun _ _ _ _ _ => (pe_tup (pa_cons (C8.pe_c C._law_near_ hr (by decide) (by rfl) (pa_cons (pv 0) (pa_cons (pv 1) pa_nil))) (pa_cons (C8.pe_c C._law_near_ hr (by decide) (by rfl) (pa_cons (pv 0) (pa_cons (pv 1) pa_nil))) pa_nil))))) pa_nil)))
      (pss_one (ps_ret (pe_ifExp (pt_cmpR op_ne (pe_op op_mul (pe_ix ix_tup (pe_ix ix_tup (pv 2) pe_int (fun _ _ => rfl)) pe_int (fun _ _ => rfl)) (pe_ix ix_tup (pe_ix ix_tup (pv 2) pe_int (fun _ _ => rfl)) pe_int (fun _ _ => rfl))) (pe_op op_mul (pe_ix ix_tup (pe_ix ix_tup (pv 2) pe_int (fun _ _ => rfl)) pe_int (fun _ _ => rfl)) (pe_ix ix_tup (pe_ix ix_tup (pv 2) pe_int (fun _ _ => rfl)) pe_int (fun _ _ => rfl))) (nomark _)) (pv 2) (pe_tup (pa_cons (pe_tup (pa_cons pe_int (pa_cons pe_int pa_nil))) (pa_cons (pe_tup (pa_cons pe_int (pa_cons pe_int pa_nil))) pa_nil)))))))
abbrev N__law_det : List Str := ["_law_table_here"]
theorem sc__law_det : FnScope N__law_det ["_law_table_here"] (defScope s__law_det) := ⟨rfl, rfl, rfl, by decide +kernel, rfl, by decide +kernel, by decide +kernel⟩
def t__law_det (K : PySem.W.Frag) : TS := (tRet (tOp rSubI (tOp rMulI (tOp (rIxT K) (tOp (rIxT K) (tVar 0) (tC (.int 0))) (tC (.int 0))) (tOp (rIxT K) (tOp (rIxT K) (tVar 0) (tC (.int 1))) (tC (.int 1)))) (tOp rMulI (tOp (rIxT K) (tOp (rIxT K) (tVar 0) (tC (.int 0))) (tC (.int 1))) (tOp (rIxT K) (tOp (rIxT K) (tVar 0) (tC (.int 1))) (tC (.int 0))))))
theorem der__law_det {P : Program} {w : World} {K : PySem.W.Frag} {mg : Str → Option Value} {base : Heap} {f : Addr} (T : Gb mg) (cdv : Value) (A : Around) (outer : List Env) (s : Shared) (H : Hp) (E : XK) (hr : Room 0 (A.deeper (envOfC "_law_det" (defScope s__law_det) s.heap.objs.size f cdv))) :
    PSs (cxOf CX0 P w K mg base N__law_det "_law_det" (defScope s__law_det) f cdv A outer s H E).nox (defBody s__law_det) (t__law_det K) :=
  (pss_one (ps_ret (pe_op op_sub (pe_op op_mul (pe_ix ix_tup (pe_ix ix_tup (pv 0) pe_int (fun _ _ => rfl)) pe_int (fun _ _ => rfl)) (pe_ix ix_tup (pe_ix ix_tup (pv 0) pe_int (fun _ _ => rfl)) pe_int (fun _ _ => rfl))) (pe_op op_mul (pe_ix ix_tup (pe_ix ix_tup (pv 0) pe_int (fun _ _ => rfl)) pe_int (fun _ _ => rfl)) (pe_ix ix_tup (pe_ix ix_tup (pv 0) pe_int (fun _ _ => rfl)) pe_int (fun _ _ => rfl))))))
theorem bw__law_plain : BindsW "_law_plain" s__law_plain ["_law_form_here"] := fun kV doc pm an cdv ct us h => by
  match us, h with
  | [_], _ => rfl
theorem bw__law_line : BindsW "_law_line" s__law_line ["_law_point_here"] := fun kV doc pm an cdv ct us h => by
  match us, h with
  | [_], _ => rfl
theorem bw__law_point : BindsW "_law_point" s__law_point ["_law_dice_here", "_law_most"] := fun kV doc pm an cdv ct us h => by
  match us, h with
  | [_, _], _ => rfl
theorem bw__law_small_form : BindsW "_law_small_form" s__law_small_form ["_law_dice_here", "_law_degree", "_law_most"] := fun kV doc pm an cdv ct us h => by
  match us, h with
  | [_, _, _], _ => rfl
theorem bw__law_all_product : BindsW "_law_all_product" s__law_all_product ["_law_forms"] := fun kV doc pm an cdv ct us h => by
  match us, h with
  | [_], _ => rfl
theorem bw__law_table : BindsW "_law_table" s__law_table ["_law_dice_here", "_law_most"] := fun kV doc pm an cdv ct us h => by
  match us, h with
  | [_, _], _ => rfl
theorem bw__law_det : BindsW "_law_det" s__law_det ["_law_table_here"] := fun kV doc pm an cdv ct us h => by
  match us, h with
  | [_], _ => rfl
theorem shg2 {a b m : Int} (ha : -m ≤ a ∧ a ≤ m) (hb : -m ≤ b ∧ b ≤ m) (h : shg [a, b] ≠ 0) : 0 < shg [a, b] ∧ shg [a, b] ≤ m := by
  have h0 := shg_nonneg [a, b]
  refine ⟨by omega, ?_⟩
  have e : shg [a, b] = ((Int.gcd ((Int.gcd 0 a : Nat) : Int) b : Nat) : Int) := rfl
  have hd2 : ((Int.gcd ((Int.gcd 0 a : Nat) : Int) b : Nat) : Int) ∣ b := Int.gcd_dvd_right ..
  have hd1 : ((Int.gcd ((Int.gcd 0 a : Nat) : Int) b : Nat) : Int) ∣ ((Int.gcd 0 a : Nat) : Int) := Int.gcd_dvd_left ..
  have hd3 : ((Int.gcd 0 a : Nat) : Int) ∣ a := Int.gcd_dvd_right ..
  rw [← e] at hd1 hd2
  have hda := Int.dvd_trans hd1 hd3
  have key : ∀ x : Int, shg [a, b] ∣ x → x ≠ 0 → -m ≤ x ∧ x ≤ m → shg [a, b] ≤ m := fun x hx nx bx => by
    have : (shg [a, b]).natAbs ≤ x.natAbs := Nat.le_of_dvd (by omega) (Int.natAbs_dvd_natAbs.mpr hx)
    omega
  by_cases za : a = 0
  · by_cases zb : b = 0
    · exact absurd ((shg_zero [a, b]).mpr (by simp [za, zb])) h
    · exact key b hd2 zb hb
  · exact key a hda za ha
theorem fdiv_le {x p m : Int} (hx : -m ≤ x ∧ x ≤ m) (hp : p ≠ 0) : -m ≤ x.fdiv p ∧ x.fdiv p ≤ m := by
  have pos : ∀ {y q : Int}, -m ≤ y ∧ y ≤ m → 0 < q → -m ≤ y.fdiv q ∧ y.fdiv q ≤ m := fun {y q} hy hq => by
    rw [Int.fdiv_eq_ediv_of_nonneg _ (by omega)]
    have h1 := Int.natAbs_ediv_le_natAbs y q
    omega
  rcases Int.lt_or_gt_of_ne hp with h | h
  · have e : x.fdiv p = (-x).fdiv (-p) := (Int.neg_fdiv_neg ..).symm
    rw [e]
    exact pos (by omega) (by omega)
  · exact pos hx h
theorem bd2_of {a b m : Int} (hm : m ≤ 3) (ha : -m ≤ a ∧ a ≤ m) (hb : -m ≤ b ∧ b ≤ m) : Bd 2 [a, b] := Bd.of fun x hx => by
  have : x = a ∨ x = b := by simpa using hx
  rcases this with rfl | rfl
  · show _ < 4; omega
  · show _ < 4; omega
section
variable {P : Program} {w : World} {K : PySem.W.Frag} {mg : Str → Option Value} {base : Heap}
theorem cal__law_plain (T : Gb mg) (C : C__law_plain P w K mg base) (D : Dfn K mg "_law_plain" s__law_plain) : C8.Cal P w K mg base 3 "_law_plain" (sp__law_plain K) [] :=
  calP D sc__law_plain bw__law_plain (by rintro Rs R ⟨x, n, m, rfl, _⟩; rfl) (fun f cdv A outer s H E hr => der__law_plain T C cdv A outer s H E hr) (by
    rintro Rs R ⟨x, y, m, rfl, hx, hy, hm, rfl⟩ H0 σ H a Q q
    refine w_seq (w_set a (e_call (a_cons (e_var rfl) a_nil) ⟨_, rfl, rfl⟩) fun σ1 H1 a1 => ?_)
    refine w_seq (w_if (b := decide (shg [x, y] = 0)) a1 (t_test (e_eqI (e_var rfl) e_c)) (fun hb H2 a2 => ?_) (fun hb H2 a2 => w_next ?_))
    · exact w_ret a2 (e_var rfl) fun v H' a' p => q v H' a'.kp a'.me ⟨(x, y), ⟨hx, hy⟩, p⟩
    have hne : shg [x, y] ≠ 0 := of_decide_eq_false hb
    obtain ⟨hp0, hpm⟩ := shg2 hx hy hne
    have hI : ∃ z : Int, ((((List.range 2).filter fun i => !decide (co [x, y] i = 0)).map fun i => IsI (co [x, y] i))[(0 : Int).toNat]? = some (IsI z)) := by
      by_cases zx : x = 0
      · by_cases zy : y = 0
        · exact absurd ((shg_zero [x, y]).mpr (by simp [zx, zy])) hne
        · exact ⟨y, by simp [List.range_succ, List.filter, co, zx, zy]⟩
      · exact ⟨x, by simp [List.range_succ, List.filter, co, zx]⟩
    obtain ⟨z, hz⟩ := hI
    refine w_seq (w_set (R := IsI z) a2 (e_ixEL (el_lcF (vs := [3]) (n := 2) (gm := []) (F := fun i => IsI (co [x, y] i)) (bs := fun i => !decide (co [x, y] i = 0)) (ij_tupI (ns := [x, y]) (e_var rfl)) (fun m hm => by cases hm) (by omega) (fun i hi c ms => g_name) (fun i hi x D acc => t_test (e_neI (e_var rfl) e_c)) (fun i hi x D acc => e_var rfl)) (by decide) hz) fun σ3 H3 a3 => ?_)
    let f : Nat → Int := fun i => (co [x, y] i).fdiv (if 0 < z then shg [x, y] else 0 - shg [x, y])
    refine w_ret a3 (R := TuI K [f 0, f 1]) (e_tupOfI (ns := [f 0, f 1]) (el_lcI0 (vs := [3]) (n := 2) (f := f) (ij_tupI (ns := [x, y]) (e_var rfl)) (by omega) (fun i hi c ms => g_name) (fun i hi x D acc => e_opI (e_var rfl) (e_if (b := decide (0 < z)) (t_test (e_opI0 (e_var rfl) e_c)) (fun e => ?_) (fun e => ?_)) ?_) rfl)) fun v H' a' p => q v H' a'.kp a'.me ⟨(f 0, f 1), ⟨?_, ?_⟩, p⟩
    · rw [if_pos (of_decide_eq_true e)]; exact e_var rfl
    · rw [if_neg (of_decide_eq_false e)]; exact e_opI0 e_c (e_var rfl)
    · show _ ≠ 0 ∧ _ < 1073741824
      split <;> omega
    · exact fdiv_le hx (by split <;> omega)
    · exact fdiv_le hy (by split <;> omega))
theorem cal__law_line (T : Gb mg) (D : Dfn K mg "_law_line" s__law_line) : C8.Cal P w K mg base 1 "_law_line" (sp__law_line K) [] :=
  calP D sc__law_line bw__law_line (by rintro Rs R ⟨x, n, rfl, _⟩; rfl) (fun f cdv A outer s H E hr => der__law_line T cdv A outer s H E hr) (by
    rintro Rs R ⟨x, y, rfl, rfl⟩ H0 σ H a Q q
    exact w_ret a (e_tup2 (e_ixI (e_var rfl) e_c (by decide) rfl) (e_opI0 e_c (e_ixI (e_var rfl) e_c (by decide) rfl))) fun v H' a' p => q v H' a'.kp a'.me p)
theorem cal__law_point (T : Gb mg) (C : C__law_point P w K mg base) (D : Dfn K mg "_law_point" s__law_point) : C8.Cal P w K mg base 4 "_law_point" (sp__law_point K) [] :=
  calD D sc__law_point bw__law_point (by rintro Rs R ⟨n, rfl, _⟩; rfl) (fun f cdv A outer s H E hr => der__law_point T C cdv A outer s H E hr) (by
    rintro Rs R d ⟨m, rfl, h1, h2, rfl⟩ H0 σ H a Q q
    refine w_seq (w_par a (a_cons (e_callD List.mem_cons_self (a_cons (e_var rfl) (a_cons (e_var rfl) a_nil)) ⟨_, rfl, ?_, ?_, rfl⟩) (a_cons (e_callD List.mem_cons_self (a_cons (e_var rfl) (a_cons (e_var rfl) a_nil)) ⟨_, rfl, ?_, ?_, rfl⟩) a_nil)) fun σ1 H1 a1 => ?_)
    · omega
    · omega
    · omega
    · omega
    obtain ⟨x, hx, a2⟩ := a1.openA (i := 2) rfl
    obtain ⟨y, hy, a3⟩ := a2.openA (i := 3) rfl
    refine w_ret a3 (e_if (t_test (e_neT (e_tup2 (K := K) (e_var rfl) (e_var rfl)) (e_tup2 (K := K) e_c e_c))) (fun _ => e_call (a_cons (e_tup2 (K := K) (e_var rfl) (e_var rfl)) a_nil) ⟨x, y, m, rfl, hx, hy, h2, rfl⟩) (fun _ => (e_tup2 (K := K) e_c e_c).weak fun v H p => ⟨(1, 0), ⟨by dsimp only; omega, by dsimp only; omega⟩, p⟩)) fun v H' a' p => q v H' a'.kp a'.me p)
theorem cal__law_small_form (T : Gb mg) (C : C__law_small_form P w K mg base) (D : Dfn K mg "_law_small_form" s__law_small_form) : C8.Cal P w K mg base 3 "_law_small_form" (sp__law_small_form K) [] :=
  calD D sc__law_small_form bw__law_small_form (by rintro Rs R ⟨d, n, rfl, _⟩; rfl) (fun f cdv A outer s H E hr => der__law_small_form T C cdv A outer s H E hr) (by
    rintro Rs R d ⟨g, m, rfl, hg, h1, h2, rfl⟩ H0 σ H a Q q
    refine w_ret a ((e_tupOf (el_lc0 (vs := [3]) (n := g + 1) (F := fun _ => InR fun r => -m ≤ r ∧ r ≤ m) (ij_rngN (n := (g : Int) + 1) (a_cons (e_opI0 (e_var rfl) e_c) a_nil) (by omega) (by omega)) (by omega) (fun i hi c ms => g_name) (fun i hi x D acc => e_callD (List.mem_cons_of_mem _ List.mem_cons_self) (a_cons (e_var rfl) (a_cons (e_var rfl) a_nil)) ⟨_, rfl, h1, ?_, rfl⟩))).weak fun v H h => tu_inR h) fun v H' a' p => q v H' a'.kp a'.me p
    omega)
theorem cal__law_all_product (T : Gb mg) (C : C__law_all_product P w K mg base) (D : Dfn K mg "_law_all_product" s__law_all_product) : C8.Cal P w K mg base 2 "_law_all_product" (sp__law_all_product K) [] :=
  calX D sc__law_all_product bw__law_all_product (by rintro Rs xs R ⟨p, ws, ps, rfl, _⟩; rfl) (fun f cdv A outer s H E hr => der__law_all_product T C cdv A outer s H E hr) (by
    rintro Rs xs R ⟨p, ws, ps, rfl, rfl, hl, hb, rfl⟩ H0 σ H a Q q
    refine w_seq (w_set a (e_tup1 (K := K) e_c) fun σ1 H1 a1 => ?_)
    have hI := ij_listR (K := K) (c := ⟨H0, [(p, ws)].map Prod.fst, []⟩) (rs := (rs0 3 [LsR p ws (ps.map fun p => TuI K [p.1, p.2])]).set 1 (some (TuI K [1]))) (ms := exm [(p, ws)]) (p := p) (ws := ws) List.mem_cons_self (e_var (i := 0) rfl)
    rw [List.length_map] at hI
    refine w_seq (w_forX (ι := List Int) a1 hI (fun i f => f.length = i + 1 ∧ Bd (9 * i + 1) f) (fun i f => [some (LsR p ws (ps.map fun p => TuI K [p.1, p.2])), some (TuI K f), none]) (fun i f => [some (LsR p ws (ps.map fun p => TuI K [p.1, p.2])), some (TuI K f), some (((ps.map fun p => TuI K [p.1, p.2])[i]?).getD (IsV .non))]) (fun _ _ => exm [(p, ws)]) (fun c σ H b => ⟨[1], ⟨rfl, Bd.of fun x hx => ?_⟩, b.wk ?_⟩) (fun i f m hm => hm) (fun i f hi hf c => g_name) (fun i f hi hf gg nx' bk' ct' σ H b k => ?_) fun f σ H hf b => w_ret b (e_var rfl) fun v H' a' pv => q v H' a'.kp a'.me ⟨f, hf, pv⟩)
    · have : x = 1 := by simpa using hx
      subst this; decide
    · walk_at "wk"
    · have hq := hb ps[i] (List.getElem_mem hi)
      have e : ((ps.map fun p => TuI K [p.1, p.2])[i]?).getD (IsV .non) = TuI K [ps[i].1, ps[i].2] := by simp [hi]
      rw [e] at b
      refine w_set b (e_call (a_cons (e_var rfl) (a_cons (e_var rfl) a_nil)) ⟨_, _, rfl, ?_, ?_, ?_, ?_, ?_, ?_, rfl⟩) fun σ' H' b' => k _ σ' H' ⟨?_, ?_⟩ (b'.wk (by walk_at "wk"))
      · omega
      · simp
      · omega
      · simp
      · exact hf.2.mono (by omega)
      · exact hq.mono (by omega)
      · rw [prod_length, hf.1]; simp
      · exact (bd_prod hf.2 hq (by simp; omega)).mono (by omega))
theorem cal__law_table (T : Gb mg) (C : C__law_table P w K mg base) (D : Dfn K mg "_law_table" s__law_table) : C8.Cal P w K mg base 3 "_law_table" (sp__law_table K) [] :=
  calD D sc__law_table bw__law_table (by rintro Rs R ⟨n, rfl, _⟩; rfl) (fun f cdv A outer s H E hr => der__law_table T C cdv A outer s H E hr) (by
    rintro Rs R d ⟨m, rfl, h1, h2, rfl⟩ H0 σ H a Q q
    let ψ : Int × Int → Prop := fun p => (-m ≤ p.1 ∧ p.1 ≤ m) ∧ (-m ≤ p.2 ∧ p.2 ≤ m)
    refine w_seq (w_setA (φ := fun t : (Int × Int) × (Int × Int) => ψ t.1 ∧ ψ t.2) (F := fun t => TabR K t.1.1 t.1.2 t.2.1 t.2.2) a ((e_tupOf (el_lc0 (vs := [3]) (n := 2) (F := fun _ => AnyR ψ fun p => TuI K [p.1, p.2]) (ij_rngN (n := 2) (a_cons e_c a_nil) rfl (by omega)) (by omega) (fun i hi c ms => g_name) (fun i hi x D acc => (e_tup (K := K) (a_cons (e_callD (List.mem_cons_of_mem _ List.mem_cons_self) (a_cons (e_var rfl) (a_cons (e_var rfl) a_nil)) ⟨_, rfl, by omega, by omega, rfl⟩) (a_cons (e_callD (List.mem_cons_of_mem _ List.mem_cons_self) (a_cons (e_var rfl) (a_cons (e_var rfl) a_nil)) ⟨_, rfl, by omega, by omega, rfl⟩) a_nil)) (by simp)).weak fun v H h => ti2_any h))).weak fun v H h => tr2_any h) fun t ht σ1 H1 a1 => ?_)
    obtain ⟨⟨x, y⟩, ⟨z, u⟩⟩ := t
    obtain ⟨⟨hx, hy⟩, ⟨hz, hu⟩⟩ := ht
    dsimp only at hx hy hz hu a1
    refine w_ret (R := AnyR (fun t : (Int × Int) × (Int × Int) => Bd 2 [t.1.1, t.1.2] ∧ Bd 2 [t.2.1, t.2.2] ∧ t.1.1 * t.2.2 ≠ t.1.2 * t.2.1) (fun t => TabR K t.1.1 t.1.2 t.2.1 t.2.2)) a1 (e_if (t_test (e_neI (e_opI (e_ixI (e_ixR (e_var rfl) e_c (by decide) rfl) e_c (by decide) rfl) (e_ixI (e_ixR (e_var rfl) e_c (by decide) rfl) e_c (by decide) rfl) (.inl ?_)) (e_opI (e_ixI (e_ixR (e_var rfl) e_c (by decide) rfl) e_c (by decide) rfl) (e_ixI (e_ixR (e_var rfl) e_c (by decide) rfl) e_c (by decide) rfl) (.inl ?_)))) (fun hb => (e_var rfl).weak fun v H h => ⟨((x, y), (z, u)), ⟨bd2_of h2 hx hy, bd2_of h2 hz hu, ?_⟩, h⟩) (fun hb => (e_tup (K := K) (Rs := [TuI K [1, 1], TuI K [0, 1]]) (a_cons (e_tup2 (K := K) e_c e_c) (a_cons (e_tup2 (K := K) e_c e_c) a_nil)) (by simp)).weak fun v H h => ⟨((1, 1), (0, 1)), ⟨bd2_of (m := 1) (by omega) (by decide) (by decide), bd2_of (m := 1) (by omega) (by decide) (by decide), by decide⟩, h⟩)) fun v H' a' p => q v H' a'.kp a'.me p
    · omega
    · omega
    · simpa using hb)
theorem cal__law_det (T : Gb mg) (D : Dfn K mg "_law_det" s__law_det) : C8.Cal P w K mg base 1 "_law_det" (sp__law_det K) [] :=
  calP D sc__law_det bw__law_det (by rintro Rs R ⟨x, y, z, u, rfl, _⟩; rfl) (fun f cdv A outer s H E hr => der__law_det T cdv A outer s H E hr) (by
    rintro Rs R ⟨x, y, z, u, rfl, h1, h2, rfl⟩ H0 σ H a Q q
    have hx : x.natAbs < 4 := h1 0
    have hy : y.natAbs < 4 := h1 1
    refine w_ret a (e_opI0 (e_opI (e_ixI (e_ixR (e_var rfl) e_c (by decide) rfl) e_c (by decide) rfl) (e_ixI (e_ixR (e_var rfl) e_c (by decide) rfl) e_c (by decide) rfl) (.inl ?_)) (e_opI (e_ixI (e_ixR (e_var rfl) e_c (by decide) rfl) e_c (by decide) rfl) (e_ixI (e_ixR (e_var rfl) e_c (by decide) rfl) e_c (by decide) rfl) (.inl ?_))) fun v H' a' p => q v H' a'.kp a'.me p
    · omega
    · omega)
end
end K45
namespace K45
open PySem PySem.Spec PyProof.Rows L2
local macro_rules | `(tactic| walk_at "ev") => `(tactic| repeat' first
  | exact e_var rfl | exact e_c | exact a_nil | refine a_cons ?_ ?_
  | refine e_opI0 ?_ ?_ | refine e_opI ?_ ?_ ?_ | refine e_eqI ?_ ?_ | refine e_neI ?_ ?_ | refine e_neg ?_
  | refine e_lenI ?_ | refine e_lenR ?_ | refine e_abs ?_ | refine e_max ?_ ?_ | refine e_min ?_ ?_ | refine e_intB ?_ | refine e_intI ?_
  | refine e_chain ?_ ?_ ?_ | refine e_ixI ?_ ?_ ?_ ?_ | refine e_ixR ?_ ?_ ?_ ?_
  | refine e_slHead ?_ ?_ ?_ | refine e_slTail ?_ ?_ ?_
  | refine t_test ?_ | refine t_b ?_ | refine e_ifI ?_ ?_ ?_
  | refine ij_zipT ?_ ?_ | refine ij_tupI ?_ | refine ij_rng ?_ ?_
  | exact g_name | exact g_pair)
local macro_rules | `(tactic| walk_at "evn") => `(tactic| repeat' first
  | exact e_var rfl | exact EJ.any e_c | exact EJ.any (e_var rfl) | exact EJ.anyN (e_var rfl) | refine e_diceC (d := ‹Addr›) List.mem_cons_self ?_ (by decide) | refine e_mulL (φ := fun _ => True) (by decide) ?_ | refine e_mulR (φ := fun _ => True) (by decide) ?_ | exact e_c
  | refine e_a0 ?_ ?_ | refine e_intN ?_)
local macro_rules | `(tactic| walk_at "wk") => `(tactic| repeat' first | exact wk_nil | refine wk_none ?_ | refine wk_some (fun _ _ h => h) ?_)
abbrev N__law_invariants : List Str := ["_law_form_here", "_law_degree", "_law_four", "_law_two", "_law_hesse", "_law_third", "_law_second", "_law_more", "_law_less"]
theorem sc__law_invariants : FnScope N__law_invariants ["_law_form_here"] (defScope s__law_invariants) := ⟨rfl, rfl, rfl, by decide +kernel, rfl, by decide +kernel, by decide +kernel⟩
def t__law_invariants (K : PySem.W.Frag) : TS := (tSeq (tAsg (tOp rSubI (tCB (rLen K) (tCons (tVar 0) tNil)) (tC (.int 1))) (gName 1))
  (tSeq (tIfS (tTest (tOp rEq (tVar 1) (tC (.int 1)))) (tRet (tTup tNil)) tNext)
  (tSeq (tIfS (tTest (tOp rEq (tVar 1) (tC (.int 2)))) (tRet (tCall (sp__law_laid K) [] E0 (tCons (tVar 0) (tCons (tVar 0) (tCons (tC (.int 2)) tNil))))) tNext)
  (tSeq (tAsg (tIf (tTest (tOp rGtB (tVar 1) (tC (.int 3)))) (tCall (sp__law_laid K) [] E0 (tCons (tVar 0) (tCons (tVar 0) (tCons (tC (.int 4)) tNil)))) (tTup tNil)) (gName 2))
  (tSeq (tIfS (tTest (tOp rLtB (tVar 1) (tC (.int 5)))) (tSeq (tAsg (tCall (sp__law_laid K) [] E0 (tCons (tVar 0) (tCons (tVar 0) (tCons (tC (.int 2)) tNil)))) (gName 4))
  (tRet (tIf (tTest (tOp rEq (tVar 1) (tC (.int 3)))) (tCall (sp__law_laid K) [] E0 (tCons (tVar 4) (tCons (tVar 4) (tCons (tC (.int 2)) tNil)))) (tOp (rCatT K) (tVar 2) (tCall (sp__law_laid K) [] E0 (tCons (tVar 0) (tCons (tVar 4) (tCons (tC (.int 4)) tNil)))))))) tNext)
  (tSeq (tIfS (tTest (tOp rEq (tVar 1) (tC (.int 5)))) (tSeq (tAsg (tCall (sp__law_laid K) [] E0 (tCons (tVar 0) (tCons (tVar 2) (tCons (tC (.int 2)) tNil)))) (gName 5))
  (tSeq (tAsg (tCall (sp__law_laid K) [] E0 (tCons (tVar 5) (tCons (tVar 5) (tCons (tC (.int 2)) tNil)))) (gName 6))
  (tRet (tOp (rCatT K) (tOp (rCatT K) (tCall (sp__law_laid K) [] E0 (tCons (tVar 2) (tCons (tVar 2) (tCons (tC (.int 2)) tNil)))) (tCall (sp__law_laid K) [] E0 (tCons (tVar 2) (tCons (tVar 6) (tCons (tC (.int 2)) tNil))))) (tCall (sp__law_laid K) [] E0 (tCons (tVar 6) (tCons (tVar 6) (tCons (tC (.int 2)) tNil)))))))) tNext)
  (tSeq (tAsg (tCall (sp__law_laid K) [] E0 (tCons (tVar 0) (tCons (tVar 2) (tCons (tC (.int 4)) tNil)))) (gName 3))
  (tSeq (tPar 7 8 (tCons (tCall (sp__law_laid K) [] E0 (tCons (tVar 2) (tCons (tVar 2) (tCons (tC (.int 2)) tNil)))) (tCons (tCall (sp__law_laid K) [] E0 (tCons (tVar 2) (tCons (tCall (sp__law_laid K) [] E0 (tCons (tVar 2) (tCons (tVar 3) (tCons (tC (.int 2)) tNil)))) (tCons (tC (.int 2)) tNil)))) tNil)))
  (tRet (tOp (rCatT K) (tOp (rCatT K) (tOp (rCatT K) (tCall (sp__law_laid K) [] E0 (tCons (tVar 0) (tCons (tVar 0) (tCons (tC (.int 6)) tNil)))) (tCall (sp__law_laid K) [] E0 (tCons (tVar 2) (tCons (tVar 2) (tCons (tC (.int 4)) tNil))))) (tCall (sp__law_laid K) [] E0 (tCons (tVar 2) (tCons (tVar 7) (tCons (tC (.int 4)) tNil))))) (tCall (sp__law_laid K) [] E0 (tCons (tVar 8) (tCons (tVar 3) (tCons (tC (.int 2)) tNil))))))))))))))
structure C__law_invariants (P : Program) (w : World) (K : PySem.W.Frag) (mg : Str → Option Value) (base : Heap) : Prop where
  _law_laid_ : C8.Cal P w K mg base 3 "_law_laid" (sp__law_laid K) []
theorem der__law_invariants {P : Program} {w : World} {K : PySem.W.Frag} {mg : Str → Option Value} {base : Heap} {f : Addr} (T : Gb mg) (C : C__law_invariants P w K mg base) (cdv : Value) (A : Around) (outer : List Env) (s : Shared) (H : Hp) (E : XK) (hr : Room 3 (A.deeper (envOfC "_law_invariants" (defScope s__law_invariants) s.heap.objs.size f cdv))) :
    PSs (cxOf CX0 P w K mg base N__law_invariants "_law_invariants" (defScope s__law_invariants) f cdv A outer s H E).nox (defBody s__law_invariants) (t__law_invariants K) :=
  (pss_cons (ps_set (i := 1) sc__law_invariants.nd rfl (.inl rfl) (pe_op op_sub (pe_callB call_len_seq (by rfl) T.len_ (by decide +kernel) (pa_cons (pv 0) pa_nil)) pe_int))
      (pss_cons (ps_if (pt_cmpR op_eq (pv 1) pe_int (nomark _)) (pss_one (ps_ret (pe_tup pa_nil))) pss_nil)
      (pss_cons (ps_if (pt_cmpR op_eq (pv 1) pe_int (nomark _)) (pss_one (ps_ret (C8.pe_c C._law_laid_ hr (by decide) (by rfl) (pa_cons (pv 0) (pa_cons (pv 0) (pa_cons pe_int pa_nil)))))) pss_nil)
      (pss_cons (ps_set (i := 2) sc__law_invariants.nd rfl (.inl rfl) (pe_ifExp (pt_cmpR op_gt (pv 1) pe_int (nomark _)) (C8.pe_c C._law_laid_ hr (by decide) (by rfl) (pa_cons (pv 0) (pa_cons (pv 0) (pa_cons pe_int pa_nil)))) (pe_tup pa_nil)))
      (pss_cons (ps_if (pt_cmpR op_lt (pv 1) pe_int (nomark _)) (pss_cons (ps_set (i := 4) sc__law_invariants.nd rfl (.inl rfl) (C8.pe_c C._law_laid_ hr (by decide) (by rfl) (pa_cons (pv 0) (pa_cons (pv 0) (pa_cons pe_int pa_nil)))))
      (pss_one (ps_ret (pe_ifExp (pt_cmpR op_eq (pv 1) pe_int (nomark _)) (C8.pe_c C._law_laid_ hr (by decide) (by rfl) (pa_cons (pv 4) (pa_cons (pv 4) (pa_cons pe_int pa_nil)))) (pe_op op_catT (pv 2) (C8.pe_c C._law_laid_ hr (by decide) (by rfl) (pa_cons (pv 0) (pa_cons (pv 4) (pa_cons pe_int pa_nil))))))))) pss_nil)
      (pss_cons (ps_if (pt_cmpR op_eq (pv 1) pe_int (nomark _)) (pss_cons (ps_set (i := 5) sc__law_invariants.nd rfl (.inl rfl) (C8.pe_c C._law_laid_ hr (by decide) (by rfl) (pa_cons (pv 0) (pa_cons (pv 2) (pa_cons pe_int pa_nil)))))
      (pss_cons (ps_set (i := 6) sc__law_invariants.nd rfl (.inl rfl) (C8.pe_c C._law_laid_ hr (by decide) (by rfl) (pa_cons (pv 5) (pa_cons (pv 5) (pa_cons pe_int pa_nil)))))
      (pss_one (ps_ret (pe_op op_catT (pe_op op_catT (C8.pe_c C._law_laid_ hr (by decide) (by rfl) (pa_cons (pv 2) (pa_cons (pv 2) (pa_cons pe_int pa_nil)))) (C8.pe_c C._law_laid_ hr (by decide) (by rfl) (pa_cons (pv 2) (pa_cons (pv 6) (pa_cons pe_int pa_nil))))) (C8.pe_c C._law_laid_ hr (by decide) (by rfl) (pa_cons (pv 6) (pa_cons (pv 6) (pa_cons pe_int pa_nil))))))))) pss_nil)
      (pss_cons (ps_set (i := 3) sc__law_invariants.nd rfl (.inl rfl) (C8.pe_c C._law_laid_ hr (by decide) (by rfl) (pa_cons (pv 0) (pa_cons (pv 2) (pa_cons pe_int pa_nil)))))
      (pss_cons (ps_par (i := 7) (j := 8) rfl sc__law_invariants.nd rfl rfl (by decide) rfl rfl (pa_cons (C8.pe_c C._law_laid_ hr (by decide) (by rfl) (pa_cons (pv 2) (pa_cons (pv 2) (pa_cons pe_int pa_nil)))) (pa_cons (C8.pe_c C._law_laid_ hr (by decide) (by rfl) (pa_cons (pv 2) (pa_cons (C8.pe_c C._law_laid_ hr (by decide) (by rfl) (pa_cons (pv 2) (pa_cons (pv 3) (pa_cons pe_int pa_nil)))) (pa_cons pe_int pa_nil)))) pa_nil)) rfl)
      (pss_one (ps_ret (pe_op op_catT (pe_op op_catT (pe_op op_catT (C8.pe_c C._law_laid_ hr (by decide) (by rfl) (pa_cons (pv 0) (pa_cons (pv 0) (pa_cons pe_int pa_nil)))) (C8.pe_c C._law_laid_ hr (by decide) (by rfl) (pa_cons (pv 2) (pa_cons (pv 2) (pa_cons pe_int pa_nil))))) (C8.pe_c C._law_laid_ hr (by decide) (by rfl) (pa_cons (pv 2) (pa_cons (pv 7) (pa_cons pe_int pa_nil))))) (C8.pe_c C._law_laid_ hr (by decide) (by rfl) (pa_cons (pv 8) (pa_cons (pv 3) (pa_cons pe_int pa_nil)))))))))))))))
theorem bw__law_invariants : BindsW "_law_invariants" s__law_invariants ["_law_form_here"] := fun kV doc pm an cdv ct us h => by
  match us, h with
  | [_], _ => rfl
section
variable {P : Program} {w : World} {K : PySem.W.Frag} {mg : Str → Option Value} {base : Heap}
section
variable {c : Ct} {rs : List (Option Rl)} {ms : Ms} {ta tb : TE}
theorem e_laid {f g : List Int} {n m k : Nat} (ha : EJ c rs ms ta (TuI K f)) (hb : EJ c rs ms tb (TuI K g)) (hf : k < f.length) (hg : k < g.length) (hk : k ≤ 6) (lf : f.length ≤ 20) (lg : g.length ≤ 20) (bf : Bd n f) (bg : Bd m g) (hn : n ≤ 40000) (hm : m ≤ 40000) :
    EJ c rs ms (tCall (sp__law_laid K) [] E0 (tCons ta (tCons tb (tCons (tC (.int (k : Int))) tNil)))) (TuI K (laid k f g)) :=
  e_call (a_cons ha (a_cons hb (a_cons e_c a_nil))) ⟨f, g, k, rfl, hf, hg, hk, lf, lg, bf.mono hn, bg.mono hm, rfl⟩
end
theorem LD {f g : List Int} {n m k : Nat} (hf : k < f.length) (hg : k < g.length) (hl : f.length + g.length ≤ 64) (hk : k ≤ 6) (bf : Bd n f) (bg : Bd m g) : Bd (n + m + 96) (laid k f g) ∧ (laid k f g).length = f.length + g.length - 1 - 2 * k := ⟨bd_laid bf bg hl hk, laid_length hf hg⟩
theorem cal__law_invariants (T : Gb mg) (C : C__law_invariants P w K mg base) (D : Dfn K mg "_law_invariants" s__law_invariants) : C8.Cal P w K mg base 4 "_law_invariants" (sp__law_invariants K) [] :=
  calP D sc__law_invariants bw__law_invariants (by rintro Rs R ⟨f, rfl, _⟩; rfl) (fun f cdv A outer s H E hr => der__law_invariants T C cdv A outer s H E hr) (by
    rintro Rs R ⟨f, rfl, h2, h7, bf, rfl⟩ H0 σ H a Q q
    refine w_seq (w_set (R := IsI ((f.length : Int) - 1)) a (e_opI0 (e_lenI (e_var rfl)) e_c) fun σ1 H1 a1 => ?_)
    refine w_seq (w_if a1 (t_test (e_eqI (e_var rfl) e_c)) (fun hb H2 a2 => ?_) (fun hb H2 a2 => w_next ?_))
    · have hb := of_decide_eq_true hb
      have e : inv f = [] := by unfold inv; rw [if_neg (by omega), if_neg (by omega), if_neg (by omega), if_neg (by omega), if_neg (by omega)]
      rw [e] at q
      exact w_ret a2 (e_tup0 (K := K)) fun v H' a' p => q v H' a'.kp a'.me p
    have n1 := of_decide_eq_false hb
    refine w_seq (w_if a2 (t_test (e_eqI (e_var rfl) e_c)) (fun hb H3 a3 => ?_) (fun hb H3 a3 => w_next ?_))
    · have hb := of_decide_eq_true hb
      have e : inv f = laid 2 f f := by unfold inv; rw [if_pos (by omega)]
      rw [e] at q
      exact w_ret a3 (e_laid (k := 2) (e_var rfl) (e_var rfl) (by omega) (by omega) (by omega) (by omega) (by omega) bf bf (by omega) (by omega)) fun v H' a' p => q v H' a'.kp a'.me p
    have n2 := of_decide_eq_false hb
    refine w_seq (w_set (R := TuI K (if 3 < (f.length : Int) - 1 then laid 4 f f else [])) a3 (e_if (b := decide (3 < (f.length : Int) - 1)) (t_test (e_opI0 (e_var rfl) e_c)) (fun e => ?_) (fun e => ?_)) fun σ4 H4 a4 => ?_)
    · rw [if_pos (of_decide_eq_true e)]
      have := of_decide_eq_true e
      exact e_laid (k := 4) (e_var rfl) (e_var rfl) (by omega) (by omega) (by omega) (by omega) (by omega) bf bf (by omega) (by omega)
    · rw [if_neg (of_decide_eq_false e)]
      exact e_tup0
    refine w_seq (w_if a4 (t_test (e_opI0 (e_var rfl) e_c)) (fun hb H5 a5 => ?_) (fun hb H5 a5 => w_next ?_))
    · have hb := of_decide_eq_true hb
      obtain ⟨b1, l1⟩ := LD (k := 2) (by omega) (by omega) (by omega) (by omega) bf bf
      refine w_seq (w_set a5 (e_laid (k := 2) (e_var rfl) (e_var rfl) (by omega) (by omega) (by omega) (by omega) (by omega) bf bf (by omega) (by omega)) fun σ6 H6 a6 => ?_)
      refine w_ret (R := TuI K (inv f)) a6 (e_if (b := decide ((f.length : Int) - 1 = 3)) (t_test (e_eqI (e_var rfl) e_c)) (fun e => ?_) (fun e => ?_)) fun v H' a' p => q v H' a'.kp a'.me p
      · have h3 := of_decide_eq_true e
        have e : inv f = laid 2 (laid 2 f f) (laid 2 f f) := by unfold inv; rw [if_neg (by omega), if_pos (by omega)]
        rw [e]
        exact e_laid (k := 2) (e_var rfl) (e_var rfl) (by omega) (by omega) (by omega) (by omega) (by omega) b1 b1 (by omega) (by omega)
      · have h3 := of_decide_eq_false e
        have e : inv f = laid 4 f f ++ laid 4 f (laid 2 f f) := by unfold inv; rw [if_neg (by omega), if_neg (by omega), if_pos (by omega), inv5]
        obtain ⟨b2, l2⟩ := LD (k := 4) (by omega) (by omega) (by omega) (by omega) bf bf
        obtain ⟨b3, l3⟩ := LD (k := 4) (by omega) (by omega) (by omega) (by omega) bf b1
        rw [e]
        refine e_catT (e_var ?_) (e_laid (k := 4) (e_var rfl) (e_var rfl) (by omega) (by omega) (by omega) (by omega) (by omega) bf b1 (by omega) (by omega)) (fun z => ?_) (by omega)
        · show some (some (TuI K (if 3 < (f.length : Int) - 1 then laid 4 f f else []))) = some (some (TuI K (laid 4 f f)))
          rw [if_pos (by omega)]
        · rw [z] at l2; simp at l2; omega
    have n5 := of_decide_eq_false hb
    rw [if_pos (by omega)] at a5
    obtain ⟨b1, l1⟩ := LD (k := 4) (by omega) (by omega) (by omega) (by omega) bf bf
    refine w_seq (w_if a5 (t_test (e_eqI (e_var rfl) e_c)) (fun hb H6 a6 => ?_) (fun hb H6 a6 => w_next ?_))
    · have hb := of_decide_eq_true hb
      obtain ⟨b2, l2⟩ := LD (k := 2) (by omega) (by omega) (by omega) (by omega) bf b1
      obtain ⟨b3, l3⟩ := LD (k := 2) (by omega) (by omega) (by omega) (by omega) b2 b2
      obtain ⟨b4, l4⟩ := LD (k := 2) (by omega) (by omega) (by omega) (by omega) b1 b1
      obtain ⟨b5, l5⟩ := LD (k := 2) (by omega) (by omega) (by omega) (by omega) b1 b3
      obtain ⟨b6, l6⟩ := LD (k := 2) (by omega) (by omega) (by omega) (by omega) b3 b3
      have e : inv f = laid 2 (laid 4 f f) (laid 4 f f) ++ laid 2 (laid 4 f f) (laid 2 (laid 2 f (laid 4 f f)) (laid 2 f (laid 4 f f))) ++ laid 2 (laid 2 (laid 2 f (laid 4 f f)) (laid 2 f (laid 4 f f))) (laid 2 (laid 2 f (laid 4 f f)) (laid 2 f (laid 4 f f))) := by
        unfold inv; rw [if_neg (by omega), if_neg (by omega), if_neg (by omega), if_pos (by omega), inv6]
      refine w_seq (w_set a6 (e_laid (k := 2) (e_var rfl) (e_var rfl) (by omega) (by omega) (by omega) (by omega) (by omega) bf b1 (by omega) (by omega)) fun σ7 H7 a7 => ?_)
      refine w_seq (w_set a7 (e_laid (k := 2) (e_var rfl) (e_var rfl) (by omega) (by omega) (by omega) (by omega) (by omega) b2 b2 (by omega) (by omega)) fun σ8 H8 a8 => ?_)
      rw [e] at q
      refine w_ret a8 (e_catT (e_catT (e_laid (k := 2) (e_var rfl) (e_var rfl) (by omega) (by omega) (by omega) (by omega) (by omega) b1 b1 (by omega) (by omega)) (e_laid (k := 2) (e_var rfl) (e_var rfl) (by omega) (by omega) (by omega) (by omega) (by omega) b1 b3 (by omega) (by omega)) (fun z => ?_) (by omega)) (e_laid (k := 2) (e_var rfl) (e_var rfl) (by omega) (by omega) (by omega) (by omega) (by omega) b3 b3 (by omega) (by omega)) (fun z => ?_) ?_) fun v H' a' p => q v H' a'.kp a'.me p
      · rw [z] at l4; simp at l4; omega
      · have := congrArg List.length z
        rw [List.length_append, l4, l5] at this; simp at this; omega
      · rw [List.length_append, l4, l5, l6]; omega
    have n6 := of_decide_eq_false hb
    obtain ⟨b2, l2⟩ := LD (k := 4) (by omega) (by omega) (by omega) (by omega) bf b1
    obtain ⟨b3, l3⟩ := LD (k := 2) (by omega) (by omega) (by omega) (by omega) b1 b1
    obtain ⟨b4, l4⟩ := LD (k := 2) (by omega) (by omega) (by omega) (by omega) b1 b2
    obtain ⟨b5, l5⟩ := LD (k := 2) (by omega) (by omega) (by omega) (by omega) b1 b4
    obtain ⟨b6, l6⟩ := LD (k := 6) (by omega) (by omega) (by omega) (by omega) bf bf
    obtain ⟨b7, l7⟩ := LD (k := 4) (by omega) (by omega) (by omega) (by omega) b1 b1
    obtain ⟨b8, l8⟩ := LD (k := 4) (by omega) (by omega) (by omega) (by omega) b1 b3
    obtain ⟨b9, l9⟩ := LD (k := 2) (by omega) (by omega) (by omega) (by omega) b5 b2
    have e : inv f = laid 6 f f ++ laid 4 (laid 4 f f) (laid 4 f f) ++ laid 4 (laid 4 f f) (laid 2 (laid 4 f f) (laid 4 f f)) ++ laid 2 (laid 2 (laid 4 f f) (laid 2 (laid 4 f f) (laid 4 f (laid 4 f f)))) (laid 4 f (laid 4 f f)) := by
      unfold inv; rw [if_neg (by omega), if_neg (by omega), if_neg (by omega), if_neg (by omega), if_pos (by omega), inv7]
    refine w_seq (w_set a6 (e_laid (k := 4) (e_var rfl) (e_var rfl) (by omega) (by omega) (by omega) (by omega) (by omega) bf b1 (by omega) (by omega)) fun σ7 H7 a7 => ?_)
    refine w_seq (w_par a7 (a_cons (e_laid (k := 2) (e_var rfl) (e_var rfl) (by omega) (by omega) (by omega) (by omega) (by omega) b1 b1 (by omega) (by omega)) (a_cons (e_laid (k := 2) (e_var rfl) (e_laid (k := 2) (e_var rfl) (e_var rfl) (by omega) (by omega) (by omega) (by omega) (by omega) b1 b2 (by omega) (by omega)) (by omega) (by omega) (by omega) (by omega) (by omega) b1 b4 (by omega) (by omega)) a_nil)) fun σ8 H8 a8 => ?_)
    rw [e] at q
    refine w_ret a8 (e_catT (e_catT (e_catT (e_laid (k := 6) (e_var rfl) (e_var rfl) (by omega) (by omega) (by omega) (by omega) (by omega) bf bf (by omega) (by omega)) (e_laid (k := 4) (e_var rfl) (e_var rfl) (by omega) (by omega) (by omega) (by omega) (by omega) b1 b1 (by omega) (by omega)) (fun z => ?_) (by omega)) (e_laid (k := 4) (e_var rfl) (e_var rfl) (by omega) (by omega) (by omega) (by omega) (by omega) b1 b3 (by omega) (by omega)) (fun z => ?_) ?_) (e_laid (k := 2) (e_var rfl) (e_var rfl) (by omega) (by omega) (by omega) (by omega) (by omega) b5 b2 (by omega) (by omega)) (fun z => ?_) ?_) fun v H' a' p => q v H' a'.kp a'.me p
    · rw [z] at l6; simp at l6; omega
    · have := congrArg List.length z
      rw [List.length_append, l6, l7] at this; simp at this; omega
    · rw [List.length_append, l6, l7, l8]; omega
    · have := congrArg List.length z
      rw [List.length_append, List.length_append, l6, l7, l8] at this; simp at this; omega
    · rw [List.length_append, List.length_append, l6, l7, l8, l9]; omega)
end
end K45
namespace K45
open PySem PySem.Spec PyProof.Rows L2
local macro_rules | `(tactic| walk_at "ev") => `(tactic| repeat' first
  | exact e_var rfl | exact e_c | exact a_nil | refine a_cons ?_ ?_
  | refine e_opI0 ?_ ?_ | refine e_opI ?_ ?_ ?_ | refine e_eqI ?_ ?_ | refine e_neI ?_ ?_ | refine e_neg ?_
  | refine e_lenI ?_ | refine e_lenR ?_ | refine e_abs ?_ | refine e_max ?_ ?_ | refine e_min ?_ ?_ | refine e_intB ?_ | refine e_intI ?_
  | refine e_chain ?_ ?_ ?_ | refine e_ixI ?_ ?_ ?_ ?_ | refine e_ixR ?_ ?_ ?_ ?_
  | refine e_slHead ?_ ?_ ?_ | refine e_slTail ?_ ?_ ?_
  | refine t_test ?_ | refine t_b ?_ | refine e_ifI ?_ ?_ ?_
  | refine ij_zipT ?_ ?_ | refine ij_tupI ?_ | refine ij_rng ?_ ?_
  | exact g_name | exact g_pair)
local macro_rules | `(tactic| walk_at "evn") => `(tactic| repeat' first
  | exact e_var rfl | exact EJ.any e_c | exact EJ.any (e_var rfl) | exact EJ.anyN (e_var rfl) | refine e_diceC (d := ‹Addr›) List.mem_cons_self ?_ (by decide) | refine e_mulL (φ := fun _ => True) (by decide) ?_ | refine e_mulR (φ := fun _ => True) (by decide) ?_ | exact e_c
  | refine e_a0 ?_ ?_ | refine e_intN ?_)
local macro_rules | `(tactic| walk_at "wk") => `(tactic| repeat' first | exact wk_nil | refine wk_none ?_ | refine wk_some (fun _ _ h => h) ?_)
abbrev N__law_form : List Str := ["_law_dice_here", "_law_degree", "_law_way", "_law_found", "_law_turn", "_law_line_here", "_law_often", "_law_place"]
theorem sc__law_form : FnScope N__law_form ["_law_dice_here", "_law_degree"] (defScope s__law_form) := ⟨rfl, rfl, rfl, by decide +kernel, rfl, by decide +kernel, by decide +kernel⟩
def t__law_form (K : PySem.W.Frag) : TS := (tSeq (tAsg (tCall (sp__law_roll K) [] E0 (tCons (tVar 0) (tCons (tC (.int 6)) tNil))) (gName 2))
  (tSeq (tIfS (tTest (tOp rEq (tVar 2) (tC (.int 0)))) (tRet (tCall (sp__law_all_product K) [] E0 (tCons (tLc (iRng1 (tCons (tVar 1) tNil)) (gName 4) tYes (tCall (sp__law_line K) [] E0 (tCons (tCall (sp__law_point K) [] E0 (tCons (tVar 0) (tCons (tC (.int 3)) tNil))) tNil)) [4]) tNil))) tNext)
  (tSeq (tIfS (tTest (tOp rEq (tVar 2) (tC (.int 1)))) (tSeq (tPar 5 6 (tCons (tCall (sp__law_line K) [] E0 (tCons (tCall (sp__law_point K) [] E0 (tCons (tVar 0) (tCons (tC (.int 3)) tNil))) tNil)) (tCons (tCall (sp__law_roll K) [] E0 (tCons (tVar 0) (tCons (tOp rAddI (tVar 1) (tC (.int 1))) tNil))) tNil)))
  (tRet (tCall (sp__law_product K) [] E0 (tCons (tCall (sp__law_power K) [] E0 (tCons (tVar 5) (tCons (tVar 6) tNil))) (tCons (tCall (sp__law_small_form K) [] E0 (tCons (tVar 0) (tCons (tOp rSubI (tVar 1) (tVar 6)) (tCons (tC (.int 4)) tNil)))) tNil))))) tNext)
  (tSeq (tIfS (tTest (tOp rEq (tVar 2) (tC (.int 2)))) (tSeq (tAsg (tCB (rTupOf K) (tCons (tLc (iRng1 (tCons (tOp rAddI (tVar 1) (tC (.int 1))) tNil)) (gName 7) tYes (tC (.int 0)) [7]) tNil)) (gName 3))
  (tSeq (tFor (iRng1 (tCons (tOp rAddI (tC (.int 1)) (tCall (sp__law_roll K) [] E0 (tCons (tVar 0) (tCons (tC (.int 3)) tNil)))) tNil)) (gName 4) (tAsg (tCall (sp__law_plus K) [] E0 (tCons (tVar 3) (tCons (tCall (sp__law_scaled K) [] E0 (tCons (tCall (sp__law_power K) [] E0 (tCons (tCall (sp__law_point K) [] E0 (tCons (tVar 0) (tCons (tC (.int 3)) tNil))) (tCons (tVar 1) tNil))) (tCons (tCall (sp__law_near K) [] E0 (tCons (tVar 0) (tCons (tC (.int 4)) tNil))) tNil))) tNil))) (gName 3)))
  (tRet (tVar 3)))) tNext)
  (tSeq (tIfS (tTest (tOp rEq (tVar 2) (tC (.int 3)))) (tRet (tCB (rTupOf K) (tCons (tLc (iRng1 (tCons (tOp rAddI (tVar 1) (tC (.int 1))) tNil)) (gName 7) tYes (tOp rMulI (tCall (sp__law_near K) [] E0 (tCons (tVar 0) (tCons (tC (.int 3)) tNil))) (tCall (sp__law_roll K) [] E0 (tCons (tVar 0) (tCons (tC (.int 2)) tNil)))) [7]) tNil))) tNext)
  (tSeq (tIfS (tAnd (tTest (tOp rEq (tVar 2) (tC (.int 4)))) (tTest (tOp rEq (tCall (sp__law_roll K) [] E0 (tCons (tVar 0) (tCons (tC (.int 4)) tNil))) (tC (.int 0))))) (tRet (tCB (rTupOf K) (tCons (tLc (iRng1 (tCons (tOp rAddI (tVar 1) (tC (.int 1))) tNil)) (gName 7) tYes (tCall (sp__law_near K) [] E0 (tCons (tVar 0) (tCons (tOp rPowI (tC (.int 10)) (tC (.int 12))) tNil))) [7]) tNil))) tNext)
  (tRet (tCall (sp__law_small_form K) [] E0 (tCons (tVar 0) (tCons (tVar 1) (tCons (tC (.int 6)) tNil)))))))))))
structure C__law_form (P : Program) (w : World) (K : PySem.W.Frag) (mg : Str → Option Value) (base : Heap) : Prop where
  _law_roll_ : C8.Cal P w K mg base 1 "_law_roll" (sp__law_roll K) []
  _law_point_ : C8.Cal P w K mg base 4 "_law_point" (sp__law_point K) []
  _law_line_ : C8.Cal P w K mg base 1 "_law_line" (sp__law_line K) []
  _law_all_product_ : C8.Cal P w K mg base 2 "_law_all_product" (sp__law_all_product K) []
  _law_small_form_ : C8.Cal P w K mg base 3 "_law_small_form" (sp__law_small_form K) []
  _law_power_ : C8.Cal P w K mg base 2 "_law_power" (sp__law_power K) []
  _law_product_ : C8.Cal P w K mg base 1 "_law_product" (sp__law_product K) []
  _law_near_ : C8.Cal P w K mg base 2 "_law_near" (sp__law_near K) []
  _law_scaled_ : C8.Cal P w K mg base 1 "_law_scaled" (sp__law_scaled K) []
  _law_plus_ : C8.Cal P w K mg base 1 "_law_plus" (sp__law_plus K) []
theorem der__law_form {P : Program} {w : World} {K : PySem.W.Frag} {mg : Str → Option Value} {base : Heap} {f : Addr} (T : Gb mg) (C : C__law_form P w K mg base) (cdv : Value) (A : Around) (outer : List Env) (s : Shared) (H : Hp) (E : XK) (hr : Room 4 (A.deeper (envOfC "_law_form" (defScope s__law_form) s.heap.objs.size f cdv))) :
    PSs (cxOf CX0 P w K mg base N__law_form "_law_form" (defScope s__law_form) f cdv A outer s H E).nox (defBody s__law_form) (t__law_form K) :=
  (pss_cons (ps_set (i := 2) sc__law_form.nd rfl (.inl rfl) (C8.pe_c C._law_roll_ hr (by decide) (by rfl) (pa_cons (pv 0) (pa_cons pe_int pa_nil))))
      (pss_cons (ps_if (pt_cmpR op_eq (pv 2) pe_int (nomark _)) (pss_one (ps_ret (C8.pe_c C._law_all_product_ hr (by decide) (by rfl) (pa_cons (pe_lc (own := [("_law_turn", 4)]) rfl sc__law_form.nd (pi_range1 rfl T.range_ (pa_cons (pv 1) pa_nil)) (blkOk_by (own := [("_law_turn", 4)]) (N := N__law_form) (sc := defScope s__law_form) (by decide +kernel)) (fun _ _ _ _ _ => (pg_name (i := 4) sc__law_form.nd rfl (Or.inl rfl))) (fun _ _ _ _ _ => pts_nil) (fun _ _ _ _ _ => (C8.pe_c C._law_line_ hr (by decide) (by rfl) (pa_cons (C8.pe_c C._law_point_ hr (by decide) (by rfl) (pa_cons (pv 0) (pa_cons pe_int pa_nil))) pa_nil)))) pa_nil)))) pss_nil)
      (pss_cons (ps_if (pt_cmpR op_eq (pv 2) pe_int (nomark _)) (pss_cons (ps_par (i := 5) (j := 6) rfl sc__law_form.nd rfl rfl (by decide) rfl rfl (pa_cons (C8.pe_c C._law_line_ hr (by decide) (by rfl) (pa_cons (C8.pe_c C._law_point_ hr (by decide) (by rfl) (pa_cons (pv 0) (pa_cons pe_int pa_nil))) pa_nil)) (pa_cons (C8.pe_c C._law_roll_ hr (by decide) (by rfl) (pa_cons (pv 0) (pa_cons (pe_op op_add (pv 1) pe_int) pa_nil))) pa_nil)) rfl)
      (pss_one (ps_ret (C8.pe_c C._law_product_ hr (by decide) (by rfl) (pa_cons (C8.pe_c C._law_power_ hr (by decide) (by rfl) (pa_cons (pv 5) (pa_cons (pv 6) pa_nil))) (pa_cons (C8.pe_c C._law_small_form_ hr (by decide) (by rfl) (pa_cons (pv 0) (pa_cons (pe_op op_sub (pv 1) (pv 6)) (pa_cons pe_int pa_nil)))) pa_nil)))))) pss_nil)
      (pss_cons (ps_if (pt_cmpR op_eq (pv 2) pe_int (nomark _)) (pss_cons (ps_set (i := 3) sc__law_form.nd rfl (.inl rfl) (pe_callTy call_tuple_of (by rfl) T.tuple_ (by decide +kernel) (pa_cons (pe_lc (own := [("_law_place", 7)]) rfl sc__law_form.nd (pi_range1 rfl T.range_ (pa_cons (pe_op op_add (pv 1) pe_int) pa_nil)) (blkOk_by (own := [("_law_place", 7)]) (N := N__law_form) (sc := defScope s__law_form) (by decide +kernel)) (fun _ _ _ _ _ => (pg_name (i := 7) sc__law_form.nd rfl (Or.inl rfl))) (fun _ _ _ _ _ => pts_nil) (fun _ _ _ _ _ => pe_int)) pa_nil)))
      (pss_cons (ps_for PassesOwn.never rfl (pi_range1 rfl T.range_ (pa_cons (pe_op op_add pe_int (C8.pe_c C._law_roll_ hr (by decide) (by rfl) (pa_cons (pv 0) (pa_cons pe_int pa_nil)))) pa_nil)) (pg_name (i := 4) sc__law_form.nd rfl (Or.inl rfl)) (pss_one (ps_set (i := 3) sc__law_form.nd rfl (.inl rfl) (C8.pe_c C._law_plus_ hr (by decide) (by rfl) (pa_cons (pv 3) (pa_cons (C8.pe_c C._law_scaled_ hr (by decide) (by rfl) (pa_cons (C8.pe_c C._law_power_ hr (by decide) (by rfl) (pa_cons (C8.pe_c C._law_point_ hr (by decide) (by rfl) (pa_cons (pv 0) (pa_cons pe_int pa_nil))) (pa_cons (pv 1) pa_nil))) (pa_cons (C8.pe_c C._law_near_ hr (by decide) (by rfl) (pa_cons (pv 0) (pa_cons pe_int pa_nil))) pa_nil))) pa_nil))))))
      (pss_one (ps_ret (pv 3))))) pss_nil)
      (pss_cons (ps_if (pt_cmpR op_eq (pv 2) pe_int (nomark _)) (pss_one (ps_ret (pe_callTy call_tuple_of (by rfl) T.tuple_ (by decide +kernel) (pa_cons (pe_lc (own := [("_law_place", 7)]) rfl sc__law_form.nd (pi_range1 rfl T.range_ (pa_cons (pe_op op_add (pv 1) pe_int) pa_nil)) (blkOk_by (own := [("_law_place", 7)]) (N := N__law_form) (sc := defScope s__law_form) (by decide +kernel)) (fun _ _ _ _ _ => (pg_name (i := 7) sc__law_form.nd rfl (Or.inl rfl))) (fun _ _ _ _ _ => pts_nil) (fun _ _ _ _ _ => (pe_op op_mul (C8.pe_c C._law_near_ hr (by decide) (by rfl) (pa_cons (pv 0) (pa_cons pe_int pa_nil))) (C8.pe_c C._law_roll_ hr (by decide) (by rfl) (pa_cons (pv 0) (pa_cons pe_int pa_nil)))))) pa_nil)))) pss_nil)
      (pss_cons (ps_if (PW.pt (pw_and (pt_cmpR op_eq (pv 2) pe_int (nomark _)) (pw_and1 (pt_cmpR op_eq (C8.pe_c C._law_roll_ hr (by decide) (by rfl) (pa_cons (pv 0) (pa_cons pe_int pa_nil))) pe_int (nomark _))))) (pss_one (ps_ret (pe_callTy call_tuple_of (by rfl) T.tuple_ (by decide +kernel) (pa_cons (pe_lc (own := [("_law_place", 7)]) rfl sc__law_form.nd (pi_range1 rfl T.range_ (pa_cons (pe_op op_add (pv 1) pe_int) pa_nil)) (blkOk_by (own := [("_law_place", 7)]) (N := N__law_form) (sc := defScope s__law_form) (by decide +kernel)) (fun _ _ _ _ _ => (pg_name (i := 7) sc__law_form.nd rfl (Or.inl rfl))) (fun _ _ _ _ _ => pts_nil) (fun _ _ _ _ _ => (C8.pe_c C._law_near_ hr (by decide) (by rfl) (pa_cons (pv 0) (pa_cons (pe_op op_pow pe_int pe_int) pa_nil))))) pa_nil)))) pss_nil)
      (pss_one (ps_ret (C8.pe_c C._law_small_form_ hr (by decide) (by rfl) (pa_cons (pv 0) (pa_cons (pv 1) (pa_cons pe_int pa_nil))))))))))))
theorem bw__law_form : BindsW "_law_form" s__law_form ["_law_dice_here", "_law_degree"] := fun kV doc pm an cdv ct us h => by
  match us, h with
  | [_, _], _ => rfl
section
variable {P : Program} {w : World} {K : PySem.W.Frag} {mg : Str → Option Value} {base : Heap}
abbrev PtR (K : PySem.W.Frag) (m : Int) : Rl := AnyR (fun p : Int × Int => (-m ≤ p.1 ∧ p.1 ≤ m) ∧ (-m ≤ p.2 ∧ p.2 ≤ m)) (fun p => TuI K [p.1, p.2])
section
variable {c : Ct} {rs : List (Option Rl)} {ms : Ms} {d : Addr} {tv : TE}
theorem e_point3 (hd : (d, Dice) ∈ ms) (hv : EJ c rs ms tv (IsV (.ref d))) : EJ c rs ms (tCall (sp__law_point K) [] E0 (tCons tv (tCons (tC (.int 3)) tNil))) (PtR K 3) :=
  e_callD hd (a_cons hv (a_cons e_c a_nil)) ⟨3, rfl, by decide, by decide, rfl⟩
theorem e_line3 {te : TE} (h : EJ c rs ms te (PtR K 3)) : EJ c rs ms (tCall (sp__law_line K) [] E0 (tCons te tNil)) (PtR K 3) :=
  e_callE (a_cons h a_nil) fun vs H p => by
    obtain ⟨v, rfl, ⟨x, y⟩, ⟨h1, h2⟩, hp⟩ := ps1 p
    dsimp only at h1 h2
    exact ⟨_, _, ⟨x, y, rfl, rfl⟩, ⟨hp, trivial⟩, fun v H' e => ⟨(y, 0 - x), ⟨h2, by dsimp only; omega⟩, e⟩⟩
end
theorem bd_small {f : List Int} {m : Int} {n : Nat} (h : ∀ x ∈ f, -m ≤ x ∧ x ≤ m) (hm : m.natAbs < 2 ^ n) : Bd n f := Bd.of fun x hx => by
  have := h x hx
  omega
theorem cal__law_form (T : Gb mg) (C : C__law_form P w K mg base) (D : Dfn K mg "_law_form" s__law_form) : C8.Cal P w K mg base 5 "_law_form" (sp__law_form K) [] :=
  calD D sc__law_form bw__law_form (by rintro Rs R ⟨d, rfl, _⟩; rfl) (fun f cdv A outer s H E hr => der__law_form T C cdv A outer s H E hr) (by
    rintro Rs R d ⟨g, rfl, hg1, hg6, rfl⟩ H0 σ H a Q q
    refine w_seq (w_setA a (e_callD List.mem_cons_self (a_cons (e_var rfl) (a_cons e_c a_nil)) ⟨6, rfl, by decide, by decide, rfl⟩) fun r hr σ1 H1 a1 => ?_)
    have m0 : ∀ {ms : Ms}, (d, Dice) ∈ (d, Dice) :: ms := List.mem_cons_self
    have m1 : ∀ {x} {ms : Ms}, (d, Dice) ∈ x :: (d, Dice) :: ms := List.mem_cons_of_mem _ List.mem_cons_self
    refine w_seq (w_if a1 (t_test (e_eqI (e_var rfl) e_c)) (fun hb H2 a2 => ?_) (fun hb H2 a2 => w_next ?_))
    · refine w_ret a2 (R := FormR K (fun f => f.length = g + 1 ∧ Bd 64 f)) (e_callXR (el_lc0 (vs := [4]) (n := g) (F := fun _ => PtR K 3) (ij_rngN (a_cons (e_var rfl) a_nil) rfl (by omega)) (by omega) (fun i hi c ms => g_name) (fun i hi x D acc => e_line3 (e_point3 m1 (e_var rfl)))) fun p xs H hp => ?_) fun v H' a' p => q v H' a'.kp a'.me p
      rw [range_const] at hp
      obtain ⟨ys, e1, e2, e3⟩ := ps_any hp
      exact ⟨_, _, ⟨p, xs, ys, rfl, rfl, by omega, fun y hy => bd2_of (m := 3) (by decide) (e2 y hy).1 (e2 y hy).2, rfl⟩, e3, fun v H' ⟨f, ⟨h1, h2⟩, h3⟩ => ⟨f, ⟨by omega, h2.mono (by omega)⟩, h3⟩⟩
    refine w_seq (w_if a2 (t_test (e_eqI (e_var rfl) e_c)) (fun hb H3 a3 => ?_) (fun hb H3 a3 => w_next ?_))
    · refine w_seq (w_par a3 (a_cons (e_line3 (e_point3 m0 (e_var rfl))) (a_cons (e_callD m0 (a_cons (e_var rfl) (a_cons (e_opI0 (e_var rfl) e_c) a_nil)) ⟨_, rfl, by omega, by omega, rfl⟩) a_nil)) fun σ4 H4 a4 => ?_)
      obtain ⟨⟨x, y⟩, ⟨hx, hy⟩, a5⟩ := a4.openA (i := 5) rfl
      obtain ⟨o, ho, a6⟩ := a5.openA (i := 6) rfl
      dsimp only at hx hy a6
      obtain ⟨o, rfl⟩ := Int.eq_ofNat_of_zero_le ho.1
      have hbd := bd2_of (m := 3) (by decide) hx hy
      have hpw := bd_powL hbd (by simp) o (by show o * 1 + 1 + 2 ≤ 64; omega)
      have hpl := powL_length2 (a := [x, y]) rfl o
      have e1 : ((g : Int) - (o : Int)) = ((g - o : Nat) : Int) := by omega
      refine w_ret a6 (R := FormR K (fun f => f.length = g + 1 ∧ Bd 64 f)) (e_callE (a_cons (e_call (a_cons (e_var rfl) (a_cons (e_var rfl) a_nil)) ⟨_, o, rfl, by simp, by simp, by omega, hbd.mono (by omega), rfl⟩) (a_cons (e_callD m0 (a_cons (e_var rfl) (a_cons (R := IsI ((g - o : Nat) : Int)) (e1 ▸ e_opI0 (e_var rfl) (e_var rfl)) (a_cons e_c a_nil))) ⟨_, 4, rfl, by omega, by decide, by decide, rfl⟩) a_nil)) fun vs H p => ?_) fun v H' a' p => q v H' a'.kp a'.me p
      obtain ⟨u, v, rfl, p1, s, ⟨hs1, hs2⟩, p2⟩ := ps2 p
      have hsb := bd_small (n := 3) hs2 (by decide)
      refine ⟨_, _, ⟨_, s, rfl, ?_, ?_, ?_, ?_, hpw.mono ?_, hsb.mono (by omega), rfl⟩, ⟨p1, p2, trivial⟩, fun v H' e => ⟨_, ⟨?_, (bd_prod hpw hsb ?_).mono ?_⟩, e⟩⟩
      · omega
      · omega
      · omega
      · omega
      · omega
      · rw [prod_length, hpl, hs1]; omega
      · omega
      · omega
    refine w_seq (w_if a3 (t_test (e_eqI (e_var rfl) e_c)) (fun hb H4 a4 => ?_) (fun hb H4 a4 => w_next ?_))
    · refine w_seq (w_set (R := TuI K (zeros (g + 1))) a4 (e_tupOfI (el_lcI0 (vs := [7]) (n := g + 1) (f := fun i => 0) (ij_rngN (n := (g : Int) + 1) (a_cons (e_opI0 (e_var rfl) e_c) a_nil) (by omega) (by omega)) (by omega) (fun i hi c ms => g_name) (fun i hi x D acc => e_c) (List.ext_getElem (by simp [zeros, tab]) fun i h1 h2 => by simp [zeros, tab]))) fun σ5 H5 a5 => ?_)
      have hI := ijx_rng (c := ⟨H0, [d], []⟩) (rs := ((rs0 8 [IsV (.ref d), IsI (g : Int)]).set 2 (some (IsI r))).set 3 (some (TuI K (zeros (g + 1))))) (ms := [(d, Dice)]) (χ := fun n => 1 ≤ n ∧ n ≤ 3) (a_cons (e_opN0 (g := fun i j => i + j) (φ := (· = 1)) (ψ := fun n => 0 ≤ n ∧ n < 3) (EJ.one e_c) (e_callD (S := fun Rs R => ∃ n : Int, Rs = [IsI n] ∧ 1 ≤ n ∧ n ≤ 2 ^ 50 ∧ R = InR (fun r => 0 ≤ r ∧ r < n)) (E := E0) (d := d) m0 (a_cons (e_var (i := 0) rfl) (a_cons (e_c (x := .int 3)) a_nil)) ⟨3, rfl, by decide, by decide, rfl⟩) (fun i j h1 h2 => by omega)) a_nil) (fun n h => by omega)
      refine w_seq (w_forXX (ι := List Int) a5 hI (fun z i f => f.length = g + 1 ∧ Bd (60 + i) f) (fun z i f => [some (IsV (.ref d)), some (IsI (g : Int)), some (IsI r), some (TuI K f), none, none, none, none]) (fun z i f => [some (IsV (.ref d)), some (IsI (g : Int)), some (IsI r), some (TuI K f), some (IsI (i : Int)), none, none, none]) (fun _ _ _ => [(d, Dice)]) (fun z hz c σ H b => ⟨_, ⟨zeros_length _, bd_zeros _ _⟩, b.wk ?_⟩) (fun z i f m hm => by cases hm) (fun z hz i f hi hf c => g_name) (fun z hz i f hi hf gg nx' bk' ct' σ H b k => ?_) (fun z hz f σ H hf b => ?_))
      · walk_at "wk"
      · refine w_setA (φ := fun f : List Int => f.length = g + 1 ∧ Bd (60 + (i + 1)) f) (F := TuI K) b (e_callE (Rs := [TuI K f, AnyR (fun f : List Int => f.length = g + 1 ∧ Bd 60 f) (TuI K)]) (a_cons (e_var rfl) (a_cons (e_callE (Rs := [AnyR (fun f : List Int => f.length = g + 1 ∧ Bd 55 f) (TuI K), InR fun r => -4 ≤ r ∧ r ≤ 4]) (a_cons (e_callE (a_cons (e_point3 m0 (e_var rfl)) (a_cons (e_var rfl) a_nil)) fun vs H p => ?_) (a_cons (e_callD m0 (a_cons (e_var rfl) (a_cons e_c a_nil)) ⟨4, rfl, by decide, by decide, rfl⟩) a_nil)) fun vs H p => ?_) a_nil)) fun vs H p => ?_) fun f' hf' σ' H' b' => k f' σ' H' hf' (b'.wk (by walk_at "wk"))
        · obtain ⟨u, v, rfl, ⟨⟨x, y⟩, ⟨hx, hy⟩, p1⟩, p2⟩ := ps2 p
          dsimp only at hx hy p1
          have hbd := bd2_of (m := 3) (by decide) hx hy
          have hpw := bd_powL hbd (by simp) g (by show g * 1 + 1 + 2 ≤ 64; omega)
          have hpl := powL_length2 (a := [x, y]) rfl g
          exact ⟨_, _, ⟨_, g, rfl, by simp, by simp, by omega, hbd.mono (by omega), rfl⟩, ⟨p1, p2, trivial⟩, fun v H' e => ⟨_, ⟨hpl, hpw.mono (by omega)⟩, e⟩⟩
        · obtain ⟨u, v, rfl, ⟨s, ⟨hs1, hs2⟩, p1⟩, ⟨n, hn, p2⟩⟩ := ps2 p
          have hnb : n.natAbs < 2 ^ 3 := by omega
          exact ⟨_, _, ⟨s, n, rfl, by omega, hs2.mono (by omega), Nat.lt_of_lt_of_le hnb (Nat.pow_le_pow_right (by decide) (by decide)), rfl⟩, ⟨p1, p2, trivial⟩, fun v H' e => ⟨_, ⟨by rw [scaled_length, hs1], (bd_scaled hs2 hnb).mono (by omega)⟩, e⟩⟩
        · obtain ⟨u, v, rfl, p1, ⟨s, ⟨hs1, hs2⟩, p2⟩⟩ := ps2 p
          have h60 : Bd (60 + i) s := hs2.mono (by omega)
          exact ⟨_, _, ⟨f, s, rfl, by omega, rfl⟩, ⟨p1, p2, trivial⟩, fun v H' e => ⟨_, ⟨by rw [plus_length, hf.1, hs1, Nat.min_self], bd_plus hf.2 h60⟩, e⟩⟩
      · have : z.toNat ≤ 3 := by omega
        exact w_ret b (e_var rfl) fun v H' a' pv => q v H' a'.kp a'.me ⟨f, ⟨hf.1, hf.2.mono (by omega)⟩, pv⟩
    refine w_seq (w_if a4 (t_test (e_eqI (e_var rfl) e_c)) (fun hb H5 a5 => ?_) (fun hb H5 a5 => w_next ?_))
    · refine w_ret a5 (R := FormR K (fun f => f.length = g + 1 ∧ Bd 64 f)) ((e_tupOf (el_lc0 (vs := [7]) (n := g + 1) (F := fun _ => InR fun r => -3 ≤ r ∧ r ≤ 3) (ij_rngN (n := (g : Int) + 1) (a_cons (e_opI0 (e_var rfl) e_c) a_nil) (by omega) (by omega)) (by omega) (fun i hi c ms => g_name) (fun i hi x D acc => e_opN (φ := fun r => -3 ≤ r ∧ r ≤ 3) (ψ := fun r => 0 ≤ r ∧ r < 2) (C := CMul) (e_callD m1 (a_cons (e_var rfl) (a_cons e_c a_nil)) ⟨3, rfl, by decide, by decide, rfl⟩) (e_callD m1 (a_cons (e_var rfl) (a_cons e_c a_nil)) ⟨2, rfl, by decide, by decide, rfl⟩) (fun i j h1 h2 => ⟨.inl (by omega), ?_⟩)))).weak fun v H h => ?_) fun v H' a' p => q v H' a'.kp a'.me p
      · have c : j = 0 ∨ j = 1 := by omega
        rcases c with rfl | rfl
        · omega
        · omega
      · obtain ⟨f, ⟨hf1, hf2⟩, e⟩ := tu_inR h
        exact ⟨f, ⟨hf1, (bd_small (n := 2) hf2 (by decide)).mono (by omega)⟩, e⟩
    refine w_seq (w_ifU a5 (u_and (t_test (e_eqI (e_var rfl) e_c)).u (u_test (e_eqN (φ := fun r => 0 ≤ r ∧ r < 4) (ψ := (· = 0)) (e_callD m0 (a_cons (e_var rfl) (a_cons e_c a_nil)) ⟨4, rfl, by decide, by decide, rfl⟩) (EJ.one e_c)))) (fun H6 a6 => ?_) (fun H6 a6 => w_next ?_))
    · refine w_ret a6 (R := FormR K (fun f => f.length = g + 1 ∧ Bd 64 f)) ((e_tupOf (el_lc0 (vs := [7]) (n := g + 1) (F := fun _ => InR fun r => -1000000000000 ≤ r ∧ r ≤ 1000000000000) (ij_rngN (n := (g : Int) + 1) (a_cons (e_opI0 (e_var rfl) e_c) a_nil) (by omega) (by omega)) (by omega) (fun i hi c ms => g_name) (fun i hi x D acc => e_callD m1 (a_cons (e_var rfl) (a_cons (R := IsI 1000000000000) (e_opI (i := 10) (j := 12) e_c e_c ⟨by decide, by decide, by decide⟩) a_nil)) ⟨1000000000000, rfl, by decide, by decide, rfl⟩))).weak fun v H h => ?_) fun v H' a' p => q v H' a'.kp a'.me p
      obtain ⟨f, ⟨hf1, hf2⟩, e⟩ := tu_inR h
      exact ⟨f, ⟨hf1, (bd_small (n := 44) hf2 (by decide)).mono (by omega)⟩, e⟩
    · refine w_ret a6 (R := FormR K (fun f => f.length = g + 1 ∧ Bd 64 f)) ((e_callD m0 (a_cons (e_var rfl) (a_cons (e_var rfl) (a_cons e_c a_nil))) ⟨g, 6, rfl, hg6, by decide, by decide, rfl⟩).weak fun v H h => ?_) fun v H' a' p => q v H' a'.kp a'.me p
      obtain ⟨f, ⟨hf1, hf2⟩, e⟩ := h
      exact ⟨f, ⟨hf1, (bd_small (n := 3) hf2 (by decide)).mono (by omega)⟩, e⟩)
end
end K45
namespace K45
open PySem PySem.Spec PyProof.Rows L2
local macro_rules | `(tactic| walk_at "ev") => `(tactic| repeat' first
  | exact e_var rfl | exact e_c | exact a_nil | refine a_cons ?_ ?_
  | refine e_opI0 ?_ ?_ | refine e_opI ?_ ?_ ?_ | refine e_eqI ?_ ?_ | refine e_neI ?_ ?_ | refine e_neg ?_
  | refine e_lenI ?_ | refine e_lenR ?_ | refine e_abs ?_ | refine e_max ?_ ?_ | refine e_min ?_ ?_ | refine e_intB ?_ | refine e_intI ?_
  | refine e_chain ?_ ?_ ?_ | refine e_ixI ?_ ?_ ?_ ?_ | refine e_ixR ?_ ?_ ?_ ?_
  | refine e_slHead ?_ ?_ ?_ | refine e_slTail ?_ ?_ ?_
  | refine t_test ?_ | refine t_b ?_ | refine e_ifI ?_ ?_ ?_
  | refine ij_zipT ?_ ?_ | refine ij_tupI ?_ | refine ij_rng ?_ ?_
  | exact g_name | exact g_pair)
local macro_rules | `(tactic| walk_at "evn") => `(tactic| repeat' first
  | exact e_var rfl | exact EJ.any e_c | exact EJ.any (e_var rfl) | exact EJ.anyN (e_var rfl) | refine e_diceC (d := ‹Addr›) List.mem_cons_self ?_ (by decide) | refine e_mulL (φ := fun _ => True) (by decide) ?_ | refine e_mulR (φ := fun _ => True) (by decide) ?_ | exact e_c
  | refine e_a0 ?_ ?_ | refine e_intN ?_)
local macro_rules | `(tactic| walk_at "wk") => `(tactic| repeat' first | exact wk_nil | refine wk_none ?_ | refine wk_some (fun _ _ h => h) ?_)
abbrev N__law_sizes : List Str := ["_law_degree"]
theorem sc__law_sizes : FnScope N__law_sizes ["_law_degree"] (defScope s__law_sizes) := ⟨rfl, rfl, rfl, by decide +kernel, rfl, by decide +kernel, by decide +kernel⟩
def t__law_sizes (K : PySem.W.Frag) : TS := (tRet (tDGet (tDisp (((tC (.int 1)), (tTup tNil)) :: (((tC (.int 2)), (tTup (tCons (tC (.int 2)) tNil))) :: (((tC (.int 3)), (tTup (tCons (tC (.int 4)) tNil))) :: (((tC (.int 4)), (tTup (tCons (tC (.int 2)) (tCons (tC (.int 3)) tNil)))) :: (((tC (.int 5)), (tTup (tCons (tC (.int 4)) (tCons (tC (.int 8)) (tCons (tC (.int 12)) tNil))))) :: (((tC (.int 6)), (tTup (tCons (tC (.int 2)) (tCons (tC (.int 4)) (tCons (tC (.int 6)) (tCons (tC (.int 10)) tNil)))))) :: []))))))) (tVar 0)))
theorem der__law_sizes {P : Program} {w : World} {K : PySem.W.Frag} {mg : Str → Option Value} {base : Heap} {f : Addr} (T : Gb mg) (cdv : Value) (A : Around) (outer : List Env) (s : Shared) (H : Hp) (E : XK) (hr : Room 0 (A.deeper (envOfC "_law_sizes" (defScope s__law_sizes) s.heap.objs.size f cdv))) :
    PSs (cxOf CX0 P w K mg base N__law_sizes "_law_sizes" (defScope s__law_sizes) f cdv A outer s H E).nox (defBody s__law_sizes) (t__law_sizes K) :=
  (pss_one (ps_ret (pe_dget (Nat.lt_of_le_of_lt (Nat.add_le_add_left (by decide : 1 ≤ 64) _) hr.units) (pe_disp (pps_cons pe_int (pe_tup pa_nil) (pps_cons pe_int (pe_tup (pa_cons pe_int pa_nil)) (pps_cons pe_int (pe_tup (pa_cons pe_int pa_nil)) (pps_cons pe_int (pe_tup (pa_cons pe_int (pa_cons pe_int pa_nil))) (pps_cons pe_int (pe_tup (pa_cons pe_int (pa_cons pe_int (pa_cons pe_int pa_nil)))) (pps_cons pe_int (pe_tup (pa_cons pe_int (pa_cons pe_int (pa_cons pe_int (pa_cons pe_int pa_nil))))) pps_nil)))))) rfl rfl (by decide) (by decide)) (pv 0) (fun _ _ => rfl))))
theorem bw__law_sizes : BindsW "_law_sizes" s__law_sizes ["_law_degree"] := fun kV doc pm an cdv ct us h => by
  match us, h with
  | [_], _ => rfl
section
variable {P : Program} {w : World} {K : PySem.W.Frag} {mg : Str → Option Value} {base : Heap}
theorem cal__law_sizes (T : Gb mg) (D : Dfn K mg "_law_sizes" s__law_sizes) : C8.Cal P w K mg base 1 "_law_sizes" (sp__law_sizes K) [] :=
  calP D sc__law_sizes bw__law_sizes (by rintro Rs R ⟨d, rfl, _⟩; rfl) (fun f cdv A outer s H E hr => der__law_sizes T cdv A outer s H E hr) (by
    rintro Rs R ⟨d, rfl, h1, h6, rfl⟩ H0 σ H a Q q
    have key : ∀ (i : Int) (j : Nat) (x : List Int), [((1 : Int), ([] : List Int)), (2, [2]), (3, [4]), (4, [2, 3]), (5, [4, 8, 12]), (6, [2, 4, 6, 10])][j]? = some (i, x) → IsI (d : Int) = IsI i → (sizes d).map (fun n : Nat => (n : Int)) = x →
        (∀ vs : List V, vs.length = 6 → valV (mergeK [] ((([((1 : Int), ([] : List Int)), (2, [2]), (3, [4]), (4, [2, 3]), (5, [4, 8, 12]), (6, [2, 4, 6, 10])].map fun p => (Sum.inl p.1 : Key)).zip vs))) (.inl i) = vs[j]?) → (t__law_sizes K) { nx := fun _ H' => Q .non H', rt := Q } σ H := by
      intro i j x hj hd hx hv
      rw [hx] at q
      refine w_ret a (e_dget (pj_cons e_c e_tup0 (pj_cons e_c (e_tup1 e_c) (pj_cons e_c (e_tup1 e_c) (pj_cons e_c (e_tup2 e_c e_c) (pj_cons e_c (e_tupI (ns := [4, 8, 12]) (a_cons e_c (a_cons e_c (a_cons e_c a_nil))) (by decide)) (pj_cons e_c (e_tupI (ns := [2, 4, 6, 10]) (a_cons e_c (a_cons e_c (a_cons e_c (a_cons e_c a_nil)))) (by decide)) pj_nil)))))) (by decide) (hd ▸ e_var rfl) hj hv) fun v H' a' p => q v H' a'.kp a'.me p
    have six : ∀ vs : List V, vs.length = 6 → ∃ a b c d e f, vs = [a, b, c, d, e, f] := fun vs h => by
      match vs, h with
      | [a, b, c, d, e, f], _ => exact ⟨a, b, c, d, e, f, rfl⟩
    have c : d = 1 ∨ d = 2 ∨ d = 3 ∨ d = 4 ∨ d = 5 ∨ d = 6 := by omega
    rcases c with rfl | rfl | rfl | rfl | rfl | rfl
    · exact key 1 0 _ rfl rfl rfl fun vs h => by obtain ⟨a, b, c, d, e, f, rfl⟩ := six vs h; rfl
    · exact key 2 1 _ rfl rfl rfl fun vs h => by obtain ⟨a, b, c, d, e, f, rfl⟩ := six vs h; rfl
    · exact key 3 2 _ rfl rfl rfl fun vs h => by obtain ⟨a, b, c, d, e, f, rfl⟩ := six vs h; rfl
    · exact key 4 3 _ rfl rfl rfl fun vs h => by obtain ⟨a, b, c, d, e, f, rfl⟩ := six vs h; rfl
    · exact key 5 4 _ rfl rfl rfl fun vs h => by obtain ⟨a, b, c, d, e, f, rfl⟩ := six vs h; rfl
    · exact key 6 5 _ rfl rfl rfl fun vs h => by obtain ⟨a, b, c, d, e, f, rfl⟩ := six vs h; rfl)
end
end K45
namespace K45
open PySem PySem.Spec PyProof.Rows L2
/-! ### lists that are not changed any more: locked where they are made -/
def tFrz (te : TE) : TE := fun σ H Q => te σ H fun v H1 => ∃ d xs, v = .ref d ∧ H1 d = some (.lst xs) ∧ ∀ od, Q v (upd H1 d (.frz od (.lst xs)))
theorem pe_frz {X : Cx} {e : Expr} {t : TE} (h : PE X e t) : PE X e (tFrz t) := by
  refine ⟨fun pins s σ H Q I hw => ?_⟩
  refine thn (h.run pins s σ H _ I hw) fun v s1 ⟨x, H1, I1, r, d, xs, e, hd, q⟩ => ?_
  obtain ⟨od, I2⟩ := I1.lock hd trivial
  exact ⟨x, _, I2, r, q od⟩
theorem upd_del' {H : Hp} {p : Addr} {o : HO} : upd (del H p) p o = upd H p o := by
  funext b
  by_cases e : b = p
  · subst e; rw [upd_same, upd_same]
  · rw [upd_ne e, upd_ne e, del_ne e]
def LfR (Rs : List Rl) : Rl := ⟨fun v H => ∃ a xs o, v = .ref a ∧ H a = some (.frz o (.lst xs)) ∧ Ps Rs xs H, fun i ⟨a, xs, o, e, h, p⟩ => ⟨a, xs, o, e, i a _ h (fun _ z => nomatch z), p.mono i⟩⟩
def LfI (ns : List Int) : Rl := ⟨fun v H => ∃ a o, v = .ref a ∧ H a = some (.frz o (.lst (ns.map V.int))), fun i ⟨a, o, e, h⟩ => ⟨a, o, e, i a _ h (fun _ z => nomatch z)⟩⟩
theorem sql_frz {K : PySem.W.Frag} {H : Hp} {a : Addr} {o : Obj} {xs : List V} (h : H a = some (.frz o (.lst xs))) : SqL K H a xs := .inl (.inr ⟨o, h⟩)
theorem lr_li {ns : List Int} {v : V} {H : Hp} : (LfR (ns.map IsI)).p v H ↔ (LfI ns).p v H := by
  constructor
  · rintro ⟨a, xs, o, e, h, p⟩
    rw [ps_ints] at p
    exact ⟨a, o, e, p ▸ h⟩
  · rintro ⟨a, o, e, h⟩
    exact ⟨a, _, o, e, h, ps_ints.mpr rfl⟩
section
variable {c : Ct} {rs : List (Option Rl)} {ms : Ms} {σ : L2.St} {H H' : Hp} {K : PySem.W.Frag} {R Ra Rb Rc : Rl} {te ta tb : TE} {tt : TT} {tr : TA} {Rs Ws Rs' : List Rl} {E : XK}
theorem e_frz (h : EL c rs ms te Rs) : EJ c rs ms (tFrz te) (LfR Rs) := fun σ H a Q q =>
  h σ H a _ fun p xs H1 a1 k1 e1 p1 => ⟨p, xs, rfl, e1, fun od => by
    have n : Kp [] (del H1 p) (upd H1 p (.frz od (.lst xs))) := by
      have := Kp.new (H := del H1 p) (p := p) (o := .frz od (.lst xs)) del_same
      rwa [upd_del'] at this
    exact q _ _ (a1.grow n) (k1.trans n.any) ⟨p, xs, od, rfl, upd_same, p1.mono n.im0⟩⟩
theorem e_frzI {ns : List Int} (h : EL c rs ms te (ns.map IsI)) : EJ c rs ms (tFrz te) (LfI ns) := (e_frz h).weak fun v H h => lr_li.mp h
theorem e_lenF {ns : List Int} (h : EJ c rs ms te (LfI ns)) : EJ c rs ms (tCB (rLen K) (tCons te tNil)) (IsI (ns.length : Int)) :=
  e_cb (a_cons h a_nil) fun vs H p Q q => by
    obtain ⟨v, rfl, a, o, rfl, h⟩ := ps1 p
    refine ⟨a, _, rfl, .inl (sql_frz h), q _ H (Kp.refl _ _) ?_⟩
    show V.int _ = V.int _
    rw [List.length_map]
theorem e_ixFR {i : Int} (h : EJ c rs ms ta (LfR Rs)) (hi : EJ c rs ms tb (IsI i)) (h0 : 0 ≤ i) (hx : Rs[i.toNat]? = some R) : EJ c rs ms (tOp (rIxL K) ta tb) R :=
  e_op h hi fun a b H ⟨p, xs, o, ha, hs, hp⟩ hb Q q => by
    subst ha
    cases (show b = .int i from hb)
    obtain ⟨v, e1, e2⟩ := hp.get hx
    exact ⟨p, _, i, v, rfl, rfl, sql_frz hs, at_of h0 e1, q _ H (Kp.refl _ _) e2⟩
theorem e_ixF {ns : List Int} {i x : Int} (h : EJ c rs ms ta (LfI ns)) (hi : EJ c rs ms tb (IsI i)) (h0 : 0 ≤ i) (hx : ns[i.toNat]? = some x) : EJ c rs ms (tOp (rIxL K) ta tb) (IsI x) :=
  e_ixFR (h.weak fun v H p => lr_li.mpr p) hi h0 (by rw [List.getElem?_map, hx]; rfl)
theorem e_ixLast (h : EJ c rs ms ta (LfR Rs)) (hi : EJ c rs ms tb (IsI (-1))) (hx : Rs[Rs.length - 1]? = some R) : EJ c rs ms (tOp (rIxL K) ta tb) R :=
  e_op h hi fun a b H ⟨p, xs, o, ha, hs, hp⟩ hb Q q => by
    subst ha
    cases (show b = .int (-1) from hb)
    obtain ⟨v, e1, e2⟩ := hp.get hx
    have hl := hp.len
    refine ⟨p, _, -1, v, rfl, rfl, sql_frz hs, ?_, q _ H (Kp.refl _ _) e2⟩
    rw [← hl] at e1
    have h1 : xs.length - 1 < xs.length := (List.getElem?_eq_some_iff.mp e1).1
    unfold atI ixN
    rw [if_neg (by omega)]
    have e : ((-1 : Int) + (xs.length : Int)).toNat = xs.length - 1 := by omega
    have e' : ((xs.length : Int) + (-1 : Int)).toNat = xs.length - 1 := by omega
    first
      | (rw [if_pos (by omega)]; simp only [e, e']; exact e1)
      | (simp only [e, e']; exact e1)
theorem el_slF {ns : List Int} {i : Nat} (h : EJ c rs ms te (LfI ns)) (hi : EJ c rs ms tb (IsI (i : Int))) (hl : i ≤ ns.length) : EL c rs ms (tSl (rSlL K) te (tPart tb) tNoPart) ((ns.drop i).map IsI) := fun σ H a Q q =>
  h σ H a _ fun x H1 a1 k1 p1 => hi σ H1 a1 _ fun y H2 a2 k2 p2 => by
    obtain ⟨b, o, rfl, hs⟩ := (LfI ns).mono (k2.im a1.me) p1
    cases (show y = .int (i : Int) from p2)
    have e1 : HT.sIx (ns.map V.int).length (ns.map V.int).length none = ns.length := by
      show (ns.map V.int).length = ns.length
      rw [List.length_map]
    have e2 : HT.sIx (ns.map V.int).length 0 (some (i : Int)) = i := by
      have := HT.sIx_nat (ns.map V.int).length 0 i
      rw [List.length_map] at this ⊢
      rw [this]; omega
    refine ⟨(i : Int), rfl, b, _, rfl, sql_frz hs, fun p hp => q p _ _ (by rw [del_upd hp]; exact a2) (by rw [del_upd hp]; exact k1.trans k2) upd_same (ps_ints.mpr ?_)⟩
    unfold cutV
    rw [e1, e2, ← List.map_drop, List.take_of_length_le (by simp)]
theorem el_slFHead {ns : List Int} (h : EJ c rs ms te (LfI ns)) (hi : EJ c rs ms tb (IsI (-1))) : EL c rs ms (tSl (rSlL K) te tNoPart (tPart tb)) ((ns.take (ns.length - 1)).map IsI) := fun σ H a Q q =>
  h σ H a _ fun x H1 a1 k1 p1 => hi σ H1 a1 _ fun y H2 a2 k2 p2 => by
    obtain ⟨b, o, rfl, hs⟩ := (LfI ns).mono (k2.im a1.me) p1
    cases (show y = .int (-1) from p2)
    have e1 : HT.sIx (ns.map V.int).length 0 none = 0 := rfl
    have e2 : HT.sIx (ns.map V.int).length (ns.map V.int).length (some (-1)) = ns.length - 1 := by
      show (if (-1 : Int) < 0 then ((-1 : Int) + (((ns.map V.int).length : Nat) : Int)).toNat else min (-1 : Int).toNat (ns.map V.int).length) = _
      rw [if_pos (by omega), List.length_map]; omega
    refine ⟨-1, rfl, b, _, rfl, sql_frz hs, fun p hp => q p _ _ (by rw [del_upd hp]; exact a2) (by rw [del_upd hp]; exact k1.trans k2) upd_same (ps_ints.mpr ?_)⟩
    unfold cutV
    rw [e1, e2, List.map_take]; rfl
theorem el_listF {ns : List Int} (h : EJ c rs ms te (LfI ns)) : EL c rs ms (tCB (rListOf K) (tCons te tNil)) (ns.map IsI) := fun σ H a Q q =>
  h σ H a _ fun v H1 a1 k1 p1 => by
    obtain ⟨b, o, rfl, h⟩ := p1
    exact ⟨b, _, rfl, .inl (sql_frz h), fun l hl => q l _ _ (by rw [del_upd hl]; exact a1) (by rw [del_upd hl]; exact k1) upd_same (ps_ints.mpr rfl)⟩
/-! ### walked -/
def gFrz (b : Addr) (xs : List V) (Rs : List Rl) : Gh := ⟨fun H => (∃ o, H b = some (.frz o (.lst xs))) ∧ Ps Rs xs H, fun i h => ⟨let ⟨o, e⟩ := h.1; ⟨o, i b _ e (fun _ z => nomatch z)⟩, h.2.mono i⟩⟩
theorem ij_listFR (h : EJ c rs ms te (LfR Rs)) : IJ c rs ms (iList K te) Rs.length (fun i => (Rs[i]?).getD (IsV .non)) [] := fun σ H a T t =>
  h σ H a _ fun v H1 a1 k1 p1 => by
    obtain ⟨b, xs, o, rfl, hs, hp⟩ := p1
    have hl := hp.len
    refine ⟨b, rfl, ⟨_, sql_frz hs⟩, t _ H1 (gFrz b xs Rs) a1 k1 ⟨⟨o, hs⟩, hp⟩ ⟨fun i H hi ⟨⟨o, g⟩, _⟩ _ => ⟨xs, xs[i]'(by omega), sql_frz g, by simp [hl, hi]⟩, fun H ⟨⟨o, g⟩, _⟩ _ => ⟨xs, sql_frz g, by omega⟩, fun i H x H' hi ⟨⟨o, g⟩, g2⟩ _ y => ?_⟩⟩
    obtain ⟨e1, e2⟩ := y
    subst e1
    refine ⟨Kp.refl _ _, ?_⟩
    obtain ⟨w, e3, e4⟩ := g2.get (i := i) (r := Rs[i]) (by simp [hi])
    have e5 := e2 xs (sql_frz g)
    rw [e3] at e5
    have e6 : w = x := Option.some.inj e5
    rw [← e6]
    simp [hi]; exact e4
theorem ij_listF {ns : List Int} (h : EJ c rs ms te (LfI ns)) : IJ c rs ms (iList K te) ns.length (fun i => IsI (co ns i)) [] := by
  have := ij_listFR (K := K) (h.weak fun v H p => lr_li.mpr p)
  rw [List.length_map] at this
  exact this.wk fun i v H hi q => gd_int hi q
theorem ij_enumFR (h : EJ c rs ms te (LfR Rs)) : IJ c rs ms (iEnum K (tCons te tNil)) Rs.length (fun i => TuR K [IsI (i : Int), (Rs[i]?).getD (IsV .non)]) [] := fun σ H a T t =>
  (a_cons h a_nil) σ H a _ fun vs H1 a1 k1 p1 => by
    obtain ⟨v, rfl, b, xs, o, rfl, hs, hp⟩ := ps1 p1
    have hl := hp.len
    refine ⟨b, xs, rfl, sql_frz hs, t _ H1 (gFrz b xs Rs) a1 k1 ⟨⟨o, hs⟩, hp⟩ ⟨fun i H hi ⟨⟨o, g⟩, _⟩ _ => ⟨xs, xs[i]'(by omega), sql_frz g, by simp [hl, hi]⟩, fun H ⟨⟨o, g⟩, _⟩ _ => ⟨xs, sql_frz g, by omega⟩, fun i H x H' hi ⟨⟨o, g⟩, g2⟩ _ y => ?_⟩⟩
    obtain ⟨p, z, rfl, hp0, rfl, f1⟩ := y
    have hx := f1 xs (sql_frz g)
    obtain ⟨w, e3, e4⟩ := g2.get (i := i) (r := Rs[i]) (by simp [hi])
    rw [e3] at hx
    have e6 : w = z := Option.some.inj hx
    subst e6
    refine ⟨Kp.new hp0, p, [.int (i : Nat), w], rfl, SqT.of upd_same, rfl, ?_, trivial⟩
    simp [hi]; exact Rs[i].mono (Kp.new hp0).im0 e4
theorem ij_enumF {ns : List Int} (h : EJ c rs ms te (LfI ns)) : IJ c rs ms (iEnum K (tCons te tNil)) ns.length (fun i => TuR K [IsI (i : Int), IsI (co ns i)]) [] := by
  have := ij_enumFR (K := K) (h.weak fun v H p => lr_li.mpr p)
  rw [List.length_map] at this
  exact this.wk fun i v H hi q => pair_wk q fun u p => gd_int hi p
theorem ij_zipF {xs ys : List Int} {tr : TA} (h : AJ c rs ms tr [LfI xs, LfI ys]) (hn : xs.length = ys.length) : IJ c rs ms (RZ.iZipA K tr) ys.length (fun i => TuR K [IsI (co xs i), IsI (co ys i)]) [] := fun σ H a T t =>
  h σ H a _ fun vs H1 a1 k1 p1 => by
    obtain ⟨v, w, rfl, ⟨b, o1, rfl, hb⟩, ⟨d, o2, rfl, hd⟩⟩ := ps2 p1
    refine ⟨b, d, _, _, rfl, .inl ⟨sql_frz hb, sql_frz hd, t _ H1 ⟨fun H => (∃ o, H b = some (.frz o (.lst (xs.map V.int)))) ∧ ∃ o, H d = some (.frz o (.lst (ys.map V.int))), fun i h => ⟨let ⟨o, e⟩ := h.1; ⟨o, i b _ e (fun _ z => nomatch z)⟩, let ⟨o, e⟩ := h.2; ⟨o, i d _ e (fun _ z => nomatch z)⟩⟩⟩ a1 k1 ⟨⟨o1, hb⟩, ⟨o2, hd⟩⟩ ⟨fun i H hi ⟨⟨o1, g1⟩, ⟨o2, g2⟩⟩ _ => ?_, fun H ⟨⟨o1, g1⟩, ⟨o2, g2⟩⟩ _ => ?_, fun i H x H' hi ⟨⟨o1, g1⟩, ⟨o2, g2⟩⟩ _ y => ?_⟩⟩⟩
    · exact ⟨_, _, .int (co xs i), .int (co ys i), sql_frz g1, sql_frz g2, by rw [List.getElem?_map, co_get? (by omega)]; rfl, by rw [List.getElem?_map, co_get? hi]; rfl⟩
    · exact ⟨_, _, sql_frz g1, sql_frz g2, by simp⟩
    · obtain ⟨q, x1, x2, rfl, hp, rfl, f3, f4⟩ := y
      have e3 := f3 _ (sql_frz g1)
      have e4 := f4 _ (sql_frz g2)
      rw [List.getElem?_map, co_get? (by omega)] at e3
      rw [List.getElem?_map, co_get? hi] at e4
      refine ⟨Kp.new hp, q, [x1, x2], rfl, SqT.of upd_same, ?_, ?_, trivial⟩
      · exact (Option.some.inj e3).symm
      · exact (Option.some.inj e4).symm
/-! ### star, compared, put together -/
theorem ps_app : ∀ {Rs Ss : List Rl} {xs ys : List V} {H : Hp}, Ps Rs xs H → Ps Ss ys H → Ps (Rs ++ Ss) (xs ++ ys) H
  | [], _, [], _, _, _, h => h
  | r :: rs, _, w :: vs, _, _, h1, h2 => ⟨h1.1, ps_app h1.2 h2⟩
  | [], _, _ :: _, _, _, h, _ => h.elim
  | _ :: _, _, [], _, _, h, _ => h.elim
theorem a_star {Ss : List Rl} (h : EJ c rs ms te (LfR Rs)) (hr : AJ c rs ms tr Ss) : AJ c rs ms (StX.tStar K te tr) (Rs ++ Ss) := fun σ H a Q q =>
  h σ H a _ fun v H1 a1 k1 ⟨p, xs, o, e, hs, hp⟩ => ⟨p, xs, e, .inr (sql_frz hs), hr σ H1 a1 _ fun ys H2 a2 k2 p2 => q _ H2 a2 (k1.trans k2) (ps_app (hp.mono (k2.im a1.me)) p2)⟩
theorem e_eqF {xs ys : List Int} (ha : EJ c rs ms ta (LfI xs)) (hb : EJ c rs ms tb (LfI ys)) : EJ c rs ms (tOp (rEqD K) ta tb) (IsB (decide (xs = ys))) :=
  e_op ha hb fun x y H ⟨a, o, e1, h1⟩ ⟨b, o', e2, h2⟩ Q q => by
    subst e1 e2
    refine ⟨_, _, .lst (sql_frz h1) (dp_ints xs), .lst (sql_frz h2) (dp_ints ys), sh_lst xs, sh_lst ys, q _ H (Kp.refl _ _) ?_⟩
    rw [eqv_lst]; rfl
theorem e_neF {xs ys : List Int} (ha : EJ c rs ms ta (LfI xs)) (hb : EJ c rs ms tb (LfI ys)) : EJ c rs ms (tOp (rNeD K) ta tb) (IsB (!decide (xs = ys))) :=
  e_op ha hb fun x y H ⟨a, o, e1, h1⟩ ⟨b, o', e2, h2⟩ Q q => by
    subst e1 e2
    refine ⟨_, _, .lst (sql_frz h1) (dp_ints xs), .lst (sql_frz h2) (dp_ints ys), sh_lst xs, sh_lst ys, q _ H (Kp.refl _ _) ?_⟩
    rw [eqv_lst]; rfl
def rCatF (K : PySem.W.Frag) : R2 := fun x y H Q => ∃ l b xs zs, x = .ref l ∧ y = .ref b ∧ H l = some (.lst xs) ∧ (∃ o, H b = some (.frz o (.lst zs))) ∧ xs.length + zs.length ≤ sizeLine ∧ ∀ p, H p = none → Q (.ref p) (upd H p (.lst (xs ++ zs)))
theorem op_catF {X : Cx} : OpR X (binaryOp .Add) (rCatF X.K) := by
  intro pins s σ H x y v u Q I rx ry h
  obtain ⟨l, b, xs, zs, rfl, rfl, hH, ⟨o, hB⟩, hz, q⟩ := h
  cases rx
  cases ry
  obtain ⟨z, its, n, r, hl, e⟩ := I.lstM hH
  obtain ⟨_, z2, its2, n2, r2, e2⟩ := (show ObjOk X.prog X.w H s.heap b (.frz o (.lst zs)) from I.hok b _ hB)
  have l2 := r2.length
  refine PySem.P.add_list e e2 ?_ (by rw [List.size_toArray, List.size_toArray]; omega)
  have ea : its.toArray ++ its2.toArray = (its ++ its2).toArray := by simp
  rw [ea]
  exact ⟨.ref _, _, I.lnew (t' := s.toks) (r.append r2) (by rw [List.length_append]; omega), rfl, q _ I.fresh⟩
theorem el_catF {xs ys : List Int} (ha : EL c rs ms ta (xs.map IsI)) (hb : EJ c rs ms tb (LfI ys)) (hl : xs.length + ys.length ≤ 1000) : EL c rs ms (tOp (rCatF K) ta tb) ((xs ++ ys).map IsI) := fun σ H a Q q =>
  ha σ H a _ fun p ws H1 a1 k1 e1 p1 => hb σ H1 (a1.back e1) _ fun y H2 a2 k2 ⟨b, o, e, h2⟩ => by
    subst e
    have e2 : H2 p = some (.lst ws) := k2 p _ e1 a1.out
    cases ps_ints.mp p1
    refine ⟨p, b, _, _, rfl, rfl, e2, ⟨o, h2⟩, ?_, fun l hl => ?_⟩
    · simp; exact Nat.le_of_lt (small1000 (by omega))
    · exact q l _ _ (by rw [del_upd hl]; exact a2) (by rw [del_upd hl]; exact k1.trans ((kp_del e1).any.trans k2)) upd_same (ps_ints.mpr (by simp))
/-! ### all, any -/
theorem e_allB {n : Nat} (h : EL c rs ms te (List.replicate n (IsB true))) : EJ c rs ms (tCB (rAll K) (tCons te tNil)) (IsB true) := fun σ H a Q q =>
  h σ H a _ fun p xs H1 a1 k1 e1 p1 => by
    have ex : ∀ {n : Nat} {xs : List V} {H : Hp}, Ps (List.replicate n (IsB true)) xs H → xs = (List.replicate n true).map V.bl := by
      intro n
      induction n with
      | zero => intro xs H h; cases xs with
        | nil => rfl
        | cons x xs => exact h.elim
      | succ n ih => intro xs H h; cases xs with
        | nil => rw [List.replicate_succ] at h; exact h.elim
        | cons x xs =>
          rw [List.replicate_succ] at h
          rw [List.replicate_succ, List.map_cons, ← ih h.2, show x = .bl true from h.1]
    refine ⟨p, List.replicate n true, rfl, by rw [← ex p1]; exact SqL.of e1, q _ H1 (a1.back e1) (k1.trans (kp_del e1).any) ?_⟩
    show V.bl _ = V.bl true
    congr 1
    simp
/-! ### a list at p that a def changes -/
def spM (S : List Rl → List Int → List Int → Prop) : Sp := fun vs H Q _ => ∃ p ws Rs ns ns', vs = .ref p :: ws ∧ S Rs ns ns' ∧ Ps Rs ws H ∧ H p = some (.lst (ns.map V.int)) ∧ ∀ v H', Kp [p] H H' → H' p = some (.lst (ns'.map V.int)) → Q v H'
theorem w_callM {S : List Rl → List Int → List Int → Prop} {p : Addr} {ns ns' : List Int} {ms2 : Ms} {nx : L2.St → Hp → Prop} {rt : VK} {bk ct : L2.St → Hp → Prop} (a : At c rs ((p, (· = ns.map V.int)) :: ms2) σ H) (h : AJ c rs ((p, (· = ns.map V.int)) :: ms2) tr (IsV (.ref p) :: Rs)) (hs : S Rs ns ns')
    (k : ∀ H', At c rs ((p, (· = ns'.map V.int)) :: ms2) σ H' → nx σ H') : tDrop (tCall (spM S) [] E tr) ⟨nx, rt, bk, ct⟩ σ H :=
  h σ H a _ fun vs H1 a1 k1 p1 => by
    match vs, p1 with
    | v :: ws, p1 =>
      obtain ⟨e, p1⟩ := p1
      cases (show v = .ref p from e)
      obtain ⟨xs, e1, e2⟩ := a1.me (p, (· = ns.map V.int)) List.mem_cons_self
      cases (show xs = ns.map V.int from e1)
      refine ⟨p, ws, Rs, ns, ns', by rw [List.append_nil], hs, p1, e2, fun v H2 k2 e3 => k H2 ?_⟩
      refine a1.step (fun x o hx n => k2 x o hx fun z => ?_) (fun m hm => ?_) rfl
      · have e : x = p := by simpa using z
        subst e; exact n List.mem_cons_self
      · rcases List.mem_cons.mp hm with z | z
        · rw [z]; exact ⟨_, rfl, e3⟩
        · obtain ⟨ys, f1, f2⟩ := a1.me m (List.mem_cons_of_mem _ z)
          have ne : m.1 ≠ p := fun w => (List.nodup_cons.mp a1.nd).1 (by have := mem_ads z; rwa [w] at this)
          exact ⟨ys, f1, k2 _ _ f2 (by simpa using ne)⟩
end
/-! ### xs[i] op= e -/
def rGetL (K : PySem.W.Frag) : V → V → Hp → VK → Prop := fun x y H Q => ∃ p xs i v, x = .ref p ∧ y = .int i ∧ SqL K H p xs ∧ 0 ≤ i ∧ xs[i.toNat]? = some v ∧ Q v H
end K45
namespace K45
open PySem PySem.Spec PyProof.Rows L2
/-! ### instances with one slot that holds a tuple of ints -/
def SiR (K : PySem.W.Frag) (C : Addr) (f : List Int) : Rl := ⟨fun v H => ∃ a dx b, v = .ref a ∧ H a = some (SlX.SlO a C dx [some (.ref b)]) ∧ H dx = some (.xd []) ∧ SqT K H b (f.map V.int),
  fun i ⟨a, dx, b, e, h1, h2, h3⟩ => ⟨a, dx, b, e, i a _ h1 (fun _ z => by unfold SlX.SlO at z; cases z), i dx _ h2 (fun _ z => nomatch z), sqt_im i h3⟩⟩
abbrev FmR (K : PySem.W.Frag) (f : List Int) : Rl := SiR K 511 f
/-- what of the two classes is leant on -/
structure Cl1 (K : PySem.W.Frag) (C : Addr) (f : Str) (p g : Addr) : Prop where
  sc : SlX.SCls K C
  sl : SlX.Slot1 K C f p 0
  si : SlX.SIsi K C
  kk : PySem.W.kitOne K (.ref C) (.ref C) = some true
  mak : Mk K C g
structure Cf (K : PySem.W.Frag) : Prop where
  t : Cl1 K 337 "own_row" 338 333
  f : Cl1 K 511 "own_entries" 512 362
  kn : PySem.W.kitOne K (.type "tuple") (.ref 337) = some false
section
variable {c : Ct} {rs : List (Option Rl)} {ms : Ms} {σ : L2.St} {H H' : Hp} {K : PySem.W.Frag} {R Ra Rb Rc : Rl} {te ta tb to tv : TE} {tt : TT} {tr : TA} {Rs Ws Rs' : List Rl} {E : XK}
theorem e_own {C p g : Addr} {fld : Str} {f : List Int} (k : Cl1 K C fld p g) (h : EJ c rs ms te (SiR K C f)) : EJ c rs ms (SlX.tSl K te fld) (TuI K f) := fun σ H a Q q =>
  h σ H a _ fun v H1 a1 k1 ⟨b, dx, e, ev, h1, h2, h3⟩ => ⟨b, C, dx, p, _, 0, .ref e, ev, .inr ⟨h1, h2⟩, k.sc, k.sl, rfl, q _ H1 a1 k1 ⟨e, rfl, h3⟩⟩
theorem e_isiOwn {C p g : Addr} {fld : Str} {f : List Int} (k : Cl1 K C fld p g) (h : EJ c rs ms te (SiR K C f)) : EJ c rs ms (tCB (SlX.rIsiSl K (.ref C)) (tCons te (tCons (tC (.ref C)) tNil))) (IsB true) :=
  e_cb (a_cons h (a_cons e_c a_nil)) fun vs H p Q q => by
    obtain ⟨v, w, rfl, ⟨b, dx, e, rfl, h1, h2, h3⟩, ew⟩ := ps2 p
    cases (show w = .ref C from ew)
    exact ⟨b, C, dx, _, .ref C, true, rfl, rfl, fun w hw => hw, .inr ⟨h1, h2⟩, k.sc, k.si, k.kk, q _ H (Kp.refl _ _) rfl⟩
theorem ty_tup {a : Addr} {xs : List V} (h : SqT K H a xs) : TyX K H (.ref a) (.type "tuple") := by
  rcases h with (h | ⟨o, h⟩) | ⟨o, its, n, hk, hc, _⟩
  · exact .base (.tup h)
  · exact .fTuple h
  · exact .kTuple hk hc
theorem e_isiTupOwn {C : Addr} {f : List Int} {b : Bool} (hk : PySem.W.kitOne K (.type "tuple") (.ref C) = some b) (h : EJ c rs ms te (TuI K f)) : EJ c rs ms (tCB (rIsi K) (tCons te (tCons (tC (.ref C)) tNil))) (IsB b) :=
  e_cb (a_cons h (a_cons e_c a_nil)) fun vs H p Q q => by
    obtain ⟨v, w, rfl, ⟨a, rfl, h⟩, ew⟩ := ps2 p
    cases (show w = .ref C from ew)
    exact ⟨_, _, _, _, b, rfl, .own C, ty_tup h, hk, q _ H (Kp.refl _ _) rfl⟩
theorem e_isiTup {n : String} {f : List Int} {b : Bool} (hk : kitB "tuple" n = some b) (h : EJ c rs ms te (TuI K f)) : EJ c rs ms (tCB (rIsi K) (tCons te (tCons (tC (.ty n)) tNil))) (IsB b) :=
  e_cb (a_cons h (a_cons e_c a_nil)) fun vs H p Q q => by
    obtain ⟨v, w, rfl, ⟨a, rfl, h⟩, ew⟩ := ps2 p
    cases (show w = .ty n from ew)
    exact ⟨_, _, _, _, b, rfl, .ty n, ty_tup h, kit_ty hk, q _ H (Kp.refl _ _) rfl⟩
theorem e_isiInt {n : String} {i : Int} {b : Bool} (hk : kitB "int" n = some b) (h : EJ c rs ms te (IsI i)) : EJ c rs ms (tCB (rIsi K) (tCons te (tCons (tC (.ty n)) tNil))) (IsB b) :=
  e_cb (a_cons h (a_cons e_c a_nil)) fun vs H p Q q => by
    obtain ⟨v, w, rfl, e, ew⟩ := ps2 p
    cases (show v = .int i from e)
    cases (show w = .ty n from ew)
    exact ⟨_, _, _, _, b, rfl, .ty n, .base (.int i), kit_ty hk, q _ H (Kp.refl _ _) rfl⟩
/-! ### an instance is made -/
def spI (K : PySem.W.Frag) (C : Addr) (S : Rl → List Int → Prop) : Sp := fun vs H Q _ => ∃ x dx e R f, vs = [.ref x, e] ∧ H x = some (.ins C dx []) ∧ S R f ∧ R.p e H ∧ dx ≠ x ∧ ∀ H2 b, Kp [] H H2 → SqT K H2 b (f.map V.int) → Q .non (SlX.slH H2 x C dx [some (.ref b)])
theorem sqt_slH {x C dx b : Addr} {vs : List (Option V)} {H2 : Hp} {xs : List V} (hx : ∃ o, H2 x = some o ∧ (∀ ys, o ≠ .tup ys) ∧ ∀ z ys, o ≠ .frz z (.tup ys)) (hd : ∃ o, H2 dx = some o ∧ (∀ ys, o ≠ .tup ys) ∧ ∀ z ys, o ≠ .frz z (.tup ys)) (h : SqT K H2 b xs) : SqT K (SlX.slH H2 x C dx vs) b xs := by
  obtain ⟨ox, e1, n1, m1⟩ := hx
  obtain ⟨od, e2, n2, m2⟩ := hd
  rcases h with (h | ⟨o, h⟩) | h
  · refine .inl (.inl ?_)
    rw [SlX.slH_ne (fun z => by rw [z, e1] at h; exact n1 _ (Option.some.inj h)) (fun z => by rw [z, e2] at h; exact n2 _ (Option.some.inj h))]; exact h
  · refine .inl (.inr ⟨o, ?_⟩)
    rw [SlX.slH_ne (fun z => by rw [z, e1] at h; exact m1 _ _ (Option.some.inj h)) (fun z => by rw [z, e2] at h; exact m2 _ _ (Option.some.inj h))]; exact h
  · exact .inr h
theorem e_make {C : Addr} {S : Rl → List Int → Prop} {f : List Int} (h : AJ c rs ms tr [R]) (hs : S R f) : EJ c rs ms (tMake C (spI K C S) [] E tr) (SiR K C f) := fun σ H a Q q =>
  h σ H a _ fun vs H1 a1 k1 p1 => fun x dx hx hdx ne => by
    obtain ⟨e, rfl, pe⟩ := ps1 p1
    have ka : Kp [] H1 (upd H1 dx (.own x)) := Kp.new hdx
    have kb : Kp [] (upd H1 dx (.own x)) (upd (upd H1 dx (.own x)) x (.ins C dx [])) := Kp.new (by rw [upd_ne (Ne.symm ne)]; exact hx)
    have kc := ka.trans kb
    refine ⟨x, dx, e, R, f, rfl, upd_same, hs, R.mono kc.im0 pe, ne, fun H2 b k2 hb => ⟨rfl, ?_⟩⟩
    have gx : H2 x = some (.ins C dx []) := k2 x _ upd_same (by simp)
    have gd : H2 dx = some (.own x) := k2 dx (.own x) (by rw [upd_ne ne, upd_same]) (by simp)
    have k3 : Kp [] H1 (SlX.slH H2 x C dx [some (.ref b)]) := fun z o e n => by
      have z1 : z ≠ x := fun w => by rw [w, hx] at e; cases e
      have z2 : z ≠ dx := fun w => by rw [w, hdx] at e; cases e
      exact ((kc.trans k2) z o e n).bind fun o' e' _ => St.of (by rw [SlX.slH_ne z1 z2]; exact e')
    refine q _ _ (a1.grow k3) (k1.trans k3.any) ⟨x, dx, b, rfl, upd_same, ?_, sqt_slH ⟨_, gx, (fun _ z => nomatch z), fun _ _ z => nomatch z⟩ ⟨_, gd, (fun _ z => nomatch z), fun _ _ z => nomatch z⟩ hb⟩
    unfold SlX.slH
    rw [upd_ne ne, upd_same]
/-- self.f = e, in __init__ -/
theorem w_slot {C p g x dx : Addr} {fld : Str} {f : List Int} {nx : L2.St → Hp → Prop} {rt : VK} {bk ct : L2.St → Hp → Prop} (k : Cl1 K C fld p g) (a : At ⟨H', [], []⟩ rs [] σ H) (hx : H' x = some (.ins C dx [])) (ho : EJ ⟨H', [], []⟩ rs [] to (IsV (.ref x))) (hv : EJ ⟨H', [], []⟩ rs [] tv (TuI K f))
    (n : ∀ H2 b, Kp [] H' H2 → SqT K H2 b (f.map V.int) → nx σ (SlX.slH H2 x C dx [some (.ref b)])) : SlX.sSl K to tv fld ⟨nx, rt, bk, ct⟩ σ H :=
  hv σ H a _ fun y H1 a1 k1 ⟨b, ey, hb⟩ => ho σ H1 a1 _ fun o H2 a2 k2 eo => by
    subst ey
    cases (show o = .ref x from eo)
    exact ⟨x, C, dx, p, [], 0, rfl, .inl ⟨a2.kp x _ hx (by simp), rfl⟩, k.sc, k.sl, n H2 b a2.kp (sqt_im (k2.im a1.me) hb)⟩
/-! ### a property -/
theorem e_prop {C : Addr} {f : List Int} {S : List Rl → Rl → Prop} (h : EJ c rs ms te (SiR K C f)) (hs : S [SiR K C f] R) : EJ c rs ms (SlX.tPropSl C (spP S) E te) R := fun σ H a Q q =>
  h σ H a _ fun v H1 a1 k1 p1 => by
    obtain ⟨b, dx, e, ev, h1, h2, h3⟩ := id p1
    exact ⟨b, dx, _, ev, .inr ⟨h1, h2⟩, [SiR K C f], R, hs, ⟨ev ▸ p1, trivial⟩, fun v H2 k2 p2 => q v H2 (a1.grow k2) (k1.trans k2.any) p2⟩
end
structure Prp (P : Program) (w : World) (K : PySem.W.Frag) (mg : Str → Option Value) (base : Heap) (k : Nat) (f : Str) (sp : Sp) : Prop where
  sc : SlX.SCls K 511
  ex : ∃ p g : Addr, PySem.W.findIn K (.ref 511) f = some (some (.ref p)) ∧ PySem.W.specialIn K (.ref p) "__get__" = some (some (.builtin "property.__get__")) ∧ PySem.W.takesIn K (.ref p) = some true ∧ (∃ rest, PySem.W.recIn K p "property" = some (.ref g :: rest)) ∧ FnR P w K mg base CX0 k g sp
theorem pe_prp {X : Cx} {k j : Nat} {f : Str} {sp : Sp} {e : Expr} {ta : TE} {pos : Pos} (c : Prp X.prog X.w X.K X.mg X.base k f sp) (hr : Room j X.A) (hk : k + 1 ≤ j) (he : PE X e ta) (hb : attributeBase e f X.env (eval e X.env) = eval e X.env := by rfl) : PE X (.Attribute e f pos) (SlX.tPropSl 511 sp E0 ta) := by
  obtain ⟨p, g, h1, h2, h3, h4, F⟩ := c.ex
  exact SlX.pe_propSl he c.sc h1 h2 h3 h4 F (hr.mono hk) (fun _ _ _ _ z => z) hb
/-! ### promises of methods; of defs that may let a table grow -/
section
variable {P : Program} {w : World} {K : PySem.W.Frag} {mg : Str → Option Value} {base : Heap} {x q : Str} {st : Stmt} {f : Addr} {fd : FuncData} {N ps : List Str} {k : Nat} {t : TS}
theorem okPq {S : List Rl → Rl → Prop} (F : FunD K x q (defArgs st) (defBody st) (defScope st) [] [] f fd) (sc : FnScope N ps (defScope st)) (hl : ∀ Rs R, S Rs R → Rs.length = ps.length)
    (hd : ∀ (cdv : Value) (A : Around) (outer : List Env) (s : Shared) (H : Hp) (E : XK), Room k (A.deeper (envOfC q (defScope st) s.heap.objs.size f cdv)) → PSs (cxOf CX0 P w K mg base N q (defScope st) f cdv A outer s H E).nox (defBody st) t)
    (hs : ∀ Rs R, S Rs R → ∀ H0, SJ t ⟨H0, [], []⟩ (rs0 N.length Rs) [] R) : FnOk P w K mg base CX0 (k + 1) f fd ps (spP S) := by
  refine F.ok sc (fun vs H Q E h => ?_) (fun cdv A outer s H vs Q E hr h => ⟨t, (hd cdv A outer s H E hr).nox, ?_⟩)
  · obtain ⟨Rs, R, h1, h2, _⟩ := h
    rw [h2.len, hl Rs R h1]
  · obtain ⟨Rs, R, h1, h2, q⟩ := h
    exact hs Rs R h1 H _ H (at_start h2 (fun m hm => by cases hm) List.nodup_nil rfl) Q fun v H' k' _ p => q v H' k' p
theorem okIq {C : Addr} {S : Rl → List Int → Prop} (F : FunD K x q (defArgs st) (defBody st) (defScope st) [] [] f fd) (sc : FnScope N ps (defScope st)) (hl : ps.length = 2)
    (hd : ∀ (cdv : Value) (A : Around) (outer : List Env) (s : Shared) (H : Hp) (E : XK), Room k (A.deeper (envOfC q (defScope st) s.heap.objs.size f cdv)) → PSs (cxOf CX0 P w K mg base N q (defScope st) f cdv A outer s H E).nox (defBody st) t)
    (hs : ∀ R g y dx, S R g → ∀ H0, H0 y = some (.ins C dx []) → ∀ σ H, At ⟨H0, [], []⟩ (rs0 N.length [IsV (.ref y), R]) [] σ H → ∀ Q : VK, (∀ H2 b, Kp [] H0 H2 → SqT K H2 b (g.map V.int) → Q .non (SlX.slH H2 y C dx [some (.ref b)])) → t { nx := fun _ H' => Q .non H', rt := Q } σ H) :
    FnOk P w K mg base CX0 (k + 1) f fd ps (spI K C S) := by
  refine F.ok sc (fun vs H Q E h => ?_) (fun cdv A outer s H vs Q E hr h => ⟨t, (hd cdv A outer s H E hr).nox, ?_⟩)
  · obtain ⟨x, dx, e, R, g, rfl, _⟩ := h
    rw [hl]; rfl
  · obtain ⟨y, dx, e, R, g, rfl, h1, h2, h3, _, q⟩ := h
    exact hs R g y dx h2 H h1 _ H (at_start (Rs := [IsV (.ref y), R]) (vs := [.ref y, e]) (show Ps [IsV (.ref y), R] [.ref y, e] H from ⟨rfl, h3, trivial⟩) (fun m hm => by cases hm) List.nodup_nil rfl) Q q
theorem okM {S : List Rl → List Int → List Int → Prop} (F : FnP K x st f fd) (sc : FnScope N ps (defScope st)) (hl : ∀ Rs a b, S Rs a b → Rs.length + 1 = ps.length)
    (hd : ∀ (cdv : Value) (A : Around) (outer : List Env) (s : Shared) (H : Hp) (E : XK), Room k (A.deeper (envOfC x (defScope st) s.heap.objs.size f cdv)) → PSs (cxOf CX0 P w K mg base N x (defScope st) f cdv A outer s H E).nox (defBody st) t)
    (hs : ∀ Rs a b p, S Rs a b → ∀ H0 σ H, At ⟨H0, [p], []⟩ (rs0 N.length (IsV (.ref p) :: Rs)) [(p, (· = a.map V.int))] σ H → ∀ Q : VK, (∀ v σ' H' rs', At ⟨H0, [p], []⟩ rs' [(p, (· = b.map V.int))] σ' H' → Q v H') → t { nx := fun _ H' => Q .non H', rt := Q } σ H) :
    FnOk P w K mg base CX0 (k + 1) f fd ps (spM S) := by
  refine F.ok sc (fun vs H Q E h => ?_) (fun cdv A outer s H vs Q E hr h => ⟨t, (hd cdv A outer s H E hr).nox, ?_⟩)
  · obtain ⟨p, ws, Rs, a, b, rfl, h1, h2, _⟩ := h
    rw [List.length_cons, h2.len, hl Rs a b h1]
  · obtain ⟨p, ws, Rs, a, b, rfl, h1, h2, h3, q⟩ := h
    refine hs Rs a b p h1 H _ H (at_start (Rs := IsV (.ref p) :: Rs) (vs := .ref p :: ws) (show Ps (IsV (.ref p) :: Rs) (.ref p :: ws) H from ⟨rfl, h2⟩) (fun m hm => ?_) (by simp [ads]) rfl) Q fun v σ' H' rs' a' => ?_
    · have e : m = (p, (· = a.map V.int)) := by simpa using hm
      subst e; exact ⟨_, rfl, h3⟩
    · obtain ⟨xs, e1, e2⟩ := a'.me (p, (· = b.map V.int)) List.mem_cons_self
      cases (show xs = b.map V.int from e1)
      exact q v H' a'.kp e2
theorem calM {S : List Rl → List Int → List Int → Prop} (D : Dfn K mg x st) (sc : FnScope N ps (defScope st)) (b : BindsW x st ps) (hl : ∀ Rs a b, S Rs a b → Rs.length + 1 = ps.length)
    (hd : ∀ (f : Addr) (cdv : Value) (A : Around) (outer : List Env) (s : Shared) (H : Hp) (E : XK), Room k (A.deeper (envOfC x (defScope st) s.heap.objs.size f cdv)) → PSs (cxOf CX0 P w K mg base N x (defScope st) f cdv A outer s H E).nox (defBody st) t)
    (hs : ∀ Rs a b p, S Rs a b → ∀ H0 σ H, At ⟨H0, [p], []⟩ (rs0 N.length (IsV (.ref p) :: Rs)) [(p, (· = a.map V.int))] σ H → ∀ Q : VK, (∀ v σ' H' rs', At ⟨H0, [p], []⟩ rs' [(p, (· = b.map V.int))] σ' H' → Q v H') → t { nx := fun _ H' => Q .non H', rt := Q } σ H) :
    C8.Cal P w K mg base (k + 1) x (spM S) [] := by
  obtain ⟨f, fd, F, g⟩ := D.ex
  exact ⟨⟨f, fd, ps, [], okM F sc hl (hd f) hs, g, F.kp, F.bindsN b, .nil⟩⟩
end
/-- the table at P stands -/
def gTab (P : Addr) : Gh := ⟨fun H => GxR.TabG H P, fun i ⟨ps, e, ok⟩ => by
  obtain ⟨qs, e2, k⟩ := i P _ e (fun _ z => nomatch z)
  exact ⟨qs, e2, k ok⟩⟩
def spT (A : Addr) (S : List Rl → Rl → Prop) : Sp := fun vs H Q _ => ∃ Rs R, S Rs R ∧ Ps Rs vs H ∧ GxR.TabG H A ∧ ∀ v H', Kp [] H H' → R.p v H' → Q v H'
section
variable {c : Ct} {rs : List (Option Rl)} {ms : Ms} {K : PySem.W.Frag} {R : Rl} {tr : TA} {Rs : List Rl} {E : XK}
theorem e_callT {A : Addr} {S : List Rl → Rl → Prop} (hg : gTab A ∈ c.gs) (h : AJ c rs ms tr Rs) (hs : S Rs R) : EJ c rs ms (tCall (spT A S) [] E tr) R := fun σ H a Q q =>
  h σ H a _ fun vs H1 a1 k1 p1 => ⟨Rs, R, hs, by rw [List.append_nil]; exact p1, a1.gh _ hg, fun v H2 k2 p2 => q v H2 (a1.grow k2) (k1.trans k2.any) p2⟩
end
section
variable {P : Program} {w : World} {K : PySem.W.Frag} {mg : Str → Option Value} {base : Heap} {x q : Str} {st : Stmt} {f : Addr} {fd : FuncData} {N ps : List Str} {k : Nat} {t : TS}
theorem okT {B : Addr} {S : List Rl → Rl → Prop} (F : FnP K x st f fd) (sc : FnScope N ps (defScope st)) (hl : ∀ Rs R, S Rs R → Rs.length = ps.length)
    (hd : ∀ (cdv : Value) (A : Around) (outer : List Env) (s : Shared) (H : Hp) (E : XK), Room k (A.deeper (envOfC x (defScope st) s.heap.objs.size f cdv)) → PSs (cxOf CX0 P w K mg base N x (defScope st) f cdv A outer s H E).nox (defBody st) t)
    (hs : ∀ Rs R, S Rs R → ∀ H0, SJ t ⟨H0, [], [gTab B]⟩ (rs0 N.length Rs) [] R) : FnOk P w K mg base CX0 (k + 1) f fd ps (spT B S) := by
  refine F.ok sc (fun vs H Q E h => ?_) (fun cdv A outer s H vs Q E hr h => ⟨t, (hd cdv A outer s H E hr).nox, ?_⟩)
  · obtain ⟨Rs, R, h1, h2, _⟩ := h
    rw [h2.len, hl Rs R h1]
  · obtain ⟨Rs, R, h1, h2, h3, q⟩ := h
    have a := at_start (N := N) (ms := []) (d0 := []) h2 (fun m hm => by cases hm) List.nodup_nil rfl
    exact hs Rs R h1 H _ H ⟨a.kp, a.fr, a.ds, (fun g hg => by
      have : g = gTab B := by simpa using hg
      subst this; exact h3), a.len, a.sl, a.me, a.nd⟩ Q fun v H' k' _ p => q v H' k' p
theorem calT {B : Addr} {S : List Rl → Rl → Prop} (D : Dfn K mg x st) (sc : FnScope N ps (defScope st)) (b : BindsW x st ps) (hl : ∀ Rs R, S Rs R → Rs.length = ps.length)
    (hd : ∀ (f : Addr) (cdv : Value) (A : Around) (outer : List Env) (s : Shared) (H : Hp) (E : XK), Room k (A.deeper (envOfC x (defScope st) s.heap.objs.size f cdv)) → PSs (cxOf CX0 P w K mg base N x (defScope st) f cdv A outer s H E).nox (defBody st) t)
    (hs : ∀ Rs R, S Rs R → ∀ H0, SJ t ⟨H0, [], [gTab B]⟩ (rs0 N.length Rs) [] R) : C8.Cal P w K mg base (k + 1) x (spT B S) [] := by
  obtain ⟨f, fd, F, g⟩ := D.ex
  exact ⟨⟨f, fd, ps, [], okT F sc hl (hd f) hs, g, F.kp, F.bindsN b, .nil⟩⟩
end
/-! ### two ways to read a body -/
theorem pss_or {X : Cx} {b : List Stmt} {t u : TS} (h1 : PSs X b t) (h2 : PSs X b u) : PSs X b (fun D σ H => t D σ H ∨ u D σ H) :=
  ⟨fun pins s σ H D I hw => hw.elim (h1.run pins s σ H D I) (h2.run pins s σ H D I)⟩
/-! ### xs[i] op= e -/
theorem get_list {X : Cx} : PGet X (rGetL X.K) := by
  intro pins s σ H o i ov iv Q I ro ri h
  obtain ⟨p, xs, k, z, rfl, rfl, hq, h0, he, q⟩ := h
  cases ro
  obtain ⟨t, rfl⟩ := ri
  obtain ⟨its, r, pl, hz⟩ := I.list hq
  obtain ⟨w, ew, rw'⟩ := r.get he
  have fin : EP X pins σ Q w s := ⟨z, H, I, rw', q⟩
  have hn := line63
  have hl := r.length
  have h2 : k.toNat < its.length := (List.getElem?_eq_some_iff.mp ew).1
  exact wpAny_getItem_list pl.isList h0 (by omega) (by simpa using ew) fin
end K45
namespace K45
open PySem PySem.Spec PyProof.Rows L2
/-! ### what the program's defs promise -/
abbrev sp_is_whole (K : PySem.W.Frag) : Sp := spP fun Rs R => ∃ n : Int, Rs = [IsI n] ∧ R = IsB true
abbrev sp_is_short (K : PySem.W.Frag) : Sp := spP fun Rs R => ∃ n : Int, Rs = [IsI n] ∧ n.natAbs < 2 ^ 199 ∧ R = IsB true
abbrev sp_is_from (K : PySem.W.Frag) : Sp := spP fun Rs R => ∃ n a b : Int, Rs = [IsI n, IsI a, IsI b] ∧ a ≤ n ∧ n ≤ b ∧ R = IsB true
abbrev sp_are_short (K : PySem.W.Frag) : Sp := spP fun Rs R => ∃ f : List Int, Rs = [TuI K f] ∧ Bd 199 f ∧ f.length ≤ 1000 ∧ R = IsB true
abbrev sp_are_entries (K : PySem.W.Frag) : Sp := spP fun Rs R => ∃ f : List Int, Rs = [TuI K f] ∧ Bd 199 f ∧ 1 ≤ f.length ∧ f.length ≤ 41 ∧ R = IsB true
abbrev sp_lots_of (K : PySem.W.Frag) : Sp := spP fun Rs R => ∃ n k : Nat, Rs = [IsI (n : Int), IsI (k : Int)] ∧ k ≤ n ∧ n ≤ 6 ∧ R = IsI (lots n k)
abbrev sp_is_zero_in (K : PySem.W.Frag) : Sp := spP fun Rs R => ∃ f : List Int, Rs = [TuI K f] ∧ R = IsB (!(f.any (· != 0)))
abbrev sp_Told (K : PySem.W.Frag) : Sp := spI K 337 fun R f => R = TuI K f
abbrev sp_Form (K : PySem.W.Frag) : Sp := spI K 511 fun R f => (R = TuI K f ∧ Bd 199 f ∧ 1 ≤ f.length ∧ f.length ≤ 41) ∨ R = SiR K 337 f
abbrev sp_Form_entries (K : PySem.W.Frag) : Sp := spP fun Rs R => ∃ f : List Int, Rs = [FmR K f] ∧ R = TuI K f
abbrev sp_Form_degree (K : PySem.W.Frag) : Sp := spP fun Rs R => ∃ f : List Int, Rs = [FmR K f] ∧ R = IsI ((f.length : Int) - 1)
abbrev sp_Form_is_zero (K : PySem.W.Frag) : Sp := spP fun Rs R => ∃ f : List Int, Rs = [FmR K f] ∧ R = IsB (!(f.any (· != 0)))
abbrev sp_form_of (K : PySem.W.Frag) : Sp := spP fun Rs R => ∃ f : List Int, Rs = [TuI K f] ∧ R = FmR K f
abbrev sp_require_form (K : PySem.W.Frag) : Sp := spP fun Rs R => ∃ f : List Int, Rs = [FmR K f] ∧ R = IsV .non
abbrev sp_laying_slope (K : PySem.W.Frag) : Sp := spP fun Rs R => ∃ (f : List Int) (b : Bool), Rs = [LfI f, IsB b] ∧ 1 ≤ f.length ∧ f.length ≤ 60 ∧ R = LfI (if b = true then dY f else dX f)
abbrev sp_laying_slopes (K : PySem.W.Frag) : Sp := spP fun Rs R => ∃ (f : List Int) (k : Nat), Rs = [TuI K f, IsI (k : Int)] ∧ k < f.length ∧ f.length ≤ 20 ∧ k ≤ 6 ∧ R = LfR ((List.range (k + 1)).map fun i => LfI (dXY f (k - i) i))
abbrev sp_add_product (K : PySem.W.Frag) : Sp := spM fun Rs a b => ∃ (f g : List Int) (c : Int), Rs = [LfI f, LfI g, IsI c] ∧ 1 ≤ f.length ∧ 1 ≤ g.length ∧ f.length + g.length ≤ 64 ∧ a.length = f.length + g.length - 1 ∧ Bd 80000 f ∧ Bd 80000 g ∧ c.natAbs < 2 ^ 64 ∧ b = plus a (scaled (prod f g) c)
abbrev sp_laid_in (K : PySem.W.Frag) : Sp := spP fun Rs R => ∃ (f g : List Int) (k : Nat), Rs = [TuI K f, TuI K g, IsI (k : Int)] ∧ k < f.length ∧ k < g.length ∧ k ≤ 6 ∧ f.length ≤ 20 ∧ g.length ≤ 20 ∧ Bd 40000 f ∧ Bd 40000 g ∧ R = TuI K (laid k f g)
abbrev sp_laid (K : PySem.W.Frag) : Sp := spP fun Rs R => ∃ (f g : List Int) (k : Nat), Rs = [FmR K f, FmR K g, IsI (k : Int)] ∧ k < f.length ∧ k < g.length ∧ k ≤ 6 ∧ f.length ≤ 20 ∧ g.length ≤ 20 ∧ Bd 40000 f ∧ Bd 40000 g ∧ R = FmR K (laid k f g)
abbrev sp_require_told (K : PySem.W.Frag) : Sp := spP fun Rs R => ∃ f : List Int, Rs = [FmR K f] ∧ 2 ≤ f.length ∧ f.length ≤ 7 ∧ R = IsV .non
abbrev sp_last_entry (K : PySem.W.Frag) : Sp := spP fun Rs R => ∃ (f g : List Int) (k : Nat) (x : Int), Rs = [FmR K f, FmR K g, IsI (k : Int)] ∧ k < f.length ∧ k < g.length ∧ k ≤ 6 ∧ f.length ≤ 20 ∧ g.length ≤ 20 ∧ Bd 40000 f ∧ Bd 40000 g ∧ laid k f g = [x] ∧ R = IsI x
abbrev sp_told_of_five (K : PySem.W.Frag) : Sp := spP fun Rs R => ∃ f : List Int, Rs = [FmR K f] ∧ f.length = 6 ∧ Bd 300 f ∧ R = TuI K (inv f)
abbrev sp_told_of_six (K : PySem.W.Frag) : Sp := spP fun Rs R => ∃ f : List Int, Rs = [FmR K f] ∧ f.length = 7 ∧ Bd 300 f ∧ R = TuI K (inv f)
abbrev sp_told_in (K : PySem.W.Frag) : Sp := spP fun Rs R => ∃ f : List Int, Rs = [FmR K f] ∧ 2 ≤ f.length ∧ f.length ≤ 7 ∧ Bd 300 f ∧ R = TuI K (inv f)
abbrev sp_told_invariants (K : PySem.W.Frag) : Sp := spP fun Rs R => ∃ f : List Int, Rs = [FmR K f] ∧ 2 ≤ f.length ∧ f.length ≤ 7 ∧ Bd 300 f ∧ R = TuI K (inv f)
/-! ### any of a tuple of ints -/
def rAnyT (K : PySem.W.Frag) : List V → Hp → VK → Prop := fun vs H Q => ∃ (a : Addr) (ns : List Int), vs = [V.ref a] ∧ SqT K H a (ns.map V.int) ∧ Q (.bl (ns.any (· != 0))) H
theorem cr_anyT {X : Cx} (hc : X.calm = true) : CallR X (.builtin "any") (rAnyT X.K) := by
  intro pins s σ H vs us Q I r h
  obtain ⟨a, ns, rfl, hs, q⟩ := h
  obtain ⟨its, rv, hl, _⟩ := I.tuple hs
  rw [Vals.ref1 r]
  have hlt : a < s.heap.objs.size := by obtain ⟨_, e, _⟩ := hl; exact Heap.lt_size e
  have hT : s.heap.IsTuple a its.toArray := hl
  have hlen := rv.length
  rw [List.length_map] at hlen
  refine call_any_walk (wpAny_pyIter_tuple hT ?_)
  refine ⟨_, _, _, _, _, _, fun i => (co ns i != 0), rfl, Walks.tuple (A := X.A.in1) (I.ok.hd hc) _ a (Nat.ne_of_lt hlt) its.toArray, ⟨⟨_, Heap.get?_push_size _ rfl, rfl, rfl⟩, hT.push _⟩, fun i v s Q E hv hq => ?_, fun h' tk hk => ?_⟩
  · have hv' : its[i]? = some v := by simpa using hv
    have hi : i < ns.length := by
      have := (List.getElem?_eq_some_iff.mp hv').1
      omega
    obtain ⟨u, hu, ru⟩ := rv.get (i := i) (x := V.int (co ns i)) (by rw [List.getElem?_map, co_get? hi]; rfl)
    rw [hv'] at hu
    have e : v = u := Option.some.inj hu
    subst e
    obtain ⟨t, rfl⟩ := ru
    exact PyProof.Rows.truthy_int hq
  · refine ⟨.bl _, H, I.kept fun b o eo => hk b o (fun hmem => ?_) (Heap.get?_push_of_some _ eo), ?_, q⟩
    · rcases List.mem_cons.mp hmem with e1 | hmem
      · exact absurd (e1 ▸ Heap.lt_size eo) (Nat.lt_irrefl _)
      · cases hmem
    · show Value.bool _ = Value.bool _
      congr 1
      rw [List.size_toArray, ← hlen]
      rw [Bool.eq_iff_iff, List.any_eq_true, List.any_eq_true]
      constructor
      · rintro ⟨i, hi, h0⟩
        have hi := List.mem_range.mp hi
        rw [co_lt hi] at h0
        exact ⟨_, List.getElem_mem hi, h0⟩
      · rintro ⟨x, hx, h0⟩
        obtain ⟨i, hi, e⟩ := List.getElem_of_mem hx
        refine ⟨i, List.mem_range.mpr hi, ?_⟩
        rw [co_lt hi, e]; exact h0
theorem EJ.isB {c : Ct} {rs : List (Option Rl)} {ms : Ms} {te : TE} {b b' : Bool} (h : EJ c rs ms te (IsB b)) (e : b = b') : EJ c rs ms te (IsB b') := e ▸ h
theorem e_anyT {c : Ct} {rs : List (Option Rl)} {ms : Ms} {K : PySem.W.Frag} {te : TE} {f : List Int} (h : EJ c rs ms te (TuI K f)) : EJ c rs ms (tCB (rAnyT K) (tCons te tNil)) (IsB (f.any (· != 0))) :=
  e_cb (a_cons h a_nil) fun vs H p Q q => by
    obtain ⟨v, rfl, a, rfl, h⟩ := ps1 p
    exact ⟨a, f, rfl, h, q _ H (Kp.refl _ _) rfl⟩
end K45
namespace K45
open PySem PySem.Spec PyProof.Rows L2
local macro_rules | `(tactic| walk_at "ev") => `(tactic| repeat' first
  | exact e_var rfl | exact e_c | exact a_nil | refine a_cons ?_ ?_
  | refine e_opI0 ?_ ?_ | refine e_opI ?_ ?_ ?_ | refine e_eqI ?_ ?_ | refine e_neI ?_ ?_ | refine e_neg ?_
  | refine e_lenI ?_ | refine e_lenR ?_ | refine e_abs ?_ | refine e_max ?_ ?_ | refine e_min ?_ ?_ | refine e_intB ?_ | refine e_intI ?_
  | refine e_chain ?_ ?_ ?_ | refine e_ixI ?_ ?_ ?_ ?_ | refine e_ixR ?_ ?_ ?_ ?_
  | refine e_slHead ?_ ?_ ?_ | refine e_slTail ?_ ?_ ?_
  | refine t_test ?_ | refine t_b ?_ | refine e_ifI ?_ ?_ ?_
  | refine ij_zipT ?_ ?_ | refine ij_tupI ?_ | refine ij_rng ?_ ?_
  | exact g_name | exact g_pair)
local macro_rules | `(tactic| walk_at "evn") => `(tactic| repeat' first
  | exact e_var rfl | exact EJ.any e_c | exact EJ.any (e_var rfl) | exact EJ.anyN (e_var rfl) | refine e_diceC (d := ‹Addr›) List.mem_cons_self ?_ (by decide) | refine e_mulL (φ := fun _ => True) (by decide) ?_ | refine e_mulR (φ := fun _ => True) (by decide) ?_ | exact e_c
  | refine e_a0 ?_ ?_ | refine e_intN ?_)
local macro_rules | `(tactic| walk_at "wk") => `(tactic| repeat' first | exact wk_nil | refine wk_none ?_ | refine wk_some (fun _ _ h => h) ?_)
abbrev N_is_whole : List Str := ["value"]
theorem sc_is_whole : FnScope N_is_whole ["value"] (defScope s_is_whole) := ⟨rfl, rfl, rfl, by decide +kernel, rfl, by decide +kernel, by decide +kernel⟩
def t_is_whole (K : PySem.W.Frag) : TS := (tRet (tAndV (tCB (rIsi K) (tCons (tVar 0) (tCons (tC (.ty "int")) tNil))) (tNotV (tCB (rIsi K) (tCons (tVar 0) (tCons (tC (.ty "bool")) tNil))))))
theorem der_is_whole {P : Program} {w : World} {K : PySem.W.Frag} {mg : Str → Option Value} {base : Heap} {f : Addr} (T : Gb mg) (cdv : Value) (A : Around) (outer : List Env) (s : Shared) (H : Hp) (E : XK) (hr : Room 0 (A.deeper (envOfC "is_whole" (defScope s_is_whole) s.heap.objs.size f cdv))) :
    PSs (cxOf CX0 P w K mg base N_is_whole "is_whole" (defScope s_is_whole) f cdv A outer s H E).nox (defBody s_is_whole) (t_is_whole K) :=
  (pss_one (ps_ret (pe_and (pe_callB call_isi (by rfl) T.isinstance_ (by decide +kernel) (pa_cons (pv 0) (pa_cons (pe_bltn (v := .ty "int") (by rfl) T.int_ (by decide +kernel) rfl) pa_nil))) (pe_one (pe_not (pe_callB call_isi (by rfl) T.isinstance_ (by decide +kernel) (pa_cons (pv 0) (pa_cons (pe_bltn (v := .ty "bool") (by rfl) T.bool_ (by decide +kernel) rfl) pa_nil))))))))
abbrev N_is_short : List Str := ["value"]
theorem sc_is_short : FnScope N_is_short ["value"] (defScope s_is_short) := ⟨rfl, rfl, rfl, by decide +kernel, rfl, by decide +kernel, by decide +kernel⟩
def t_is_short (K : PySem.W.Frag) : TS := (tRet (tAndV (tCall (sp_is_whole K) [] E0 (tCons (tVar 0) tNil)) (tChain rLtB rLtB (tUn rNegI (tC (.int (10 ^ 60)))) (tVar 0) (tC (.int (10 ^ 60))))))
structure C_is_short (P : Program) (w : World) (K : PySem.W.Frag) (mg : Str → Option Value) (base : Heap) : Prop where
  is_whole_ : C8.Cal P w K mg base 1 "is_whole" (sp_is_whole K) []
theorem der_is_short {P : Program} {w : World} {K : PySem.W.Frag} {mg : Str → Option Value} {base : Heap} {f : Addr} (T : Gb mg) (C : C_is_short P w K mg base) (cdv : Value) (A : Around) (outer : List Env) (s : Shared) (H : Hp) (E : XK) (hr : Room 1 (A.deeper (envOfC "is_short" (defScope s_is_short) s.heap.objs.size f cdv))) :
    PSs (cxOf CX0 P w K mg base N_is_short "is_short" (defScope s_is_short) f cdv A outer s H E).nox (defBody s_is_short) (t_is_short K) :=
  (pss_one (ps_ret (pe_and (C8.pe_c C.is_whole_ hr (by decide) (by rfl) (pa_cons (pv 0) pa_nil)) (pe_one (pe_chain op_lt op_lt (pe_un un_neg (C8.pe_gc (by rfl) T.GREATEST_)) (pv 0) (C8.pe_gc (by rfl) T.GREATEST_))))))
abbrev N_is_from : List Str := ["value", "least", "most"]
theorem sc_is_from : FnScope N_is_from ["value", "least", "most"] (defScope s_is_from) := ⟨rfl, rfl, rfl, by decide +kernel, rfl, by decide +kernel, by decide +kernel⟩
def t_is_from (K : PySem.W.Frag) : TS := (tRet (tAndV (tCall (sp_is_whole K) [] E0 (tCons (tVar 0) tNil)) (tChain rLeB rLeB (tVar 1) (tVar 0) (tVar 2))))
structure C_is_from (P : Program) (w : World) (K : PySem.W.Frag) (mg : Str → Option Value) (base : Heap) : Prop where
  is_whole_ : C8.Cal P w K mg base 1 "is_whole" (sp_is_whole K) []
theorem der_is_from {P : Program} {w : World} {K : PySem.W.Frag} {mg : Str → Option Value} {base : Heap} {f : Addr} (T : Gb mg) (C : C_is_from P w K mg base) (cdv : Value) (A : Around) (outer : List Env) (s : Shared) (H : Hp) (E : XK) (hr : Room 1 (A.deeper (envOfC "is_from" (defScope s_is_from) s.heap.objs.size f cdv))) :
    PSs (cxOf CX0 P w K mg base N_is_from "is_from" (defScope s_is_from) f cdv A outer s H E).nox (defBody s_is_from) (t_is_from K) :=
  (pss_one (ps_ret (pe_and (C8.pe_c C.is_whole_ hr (by decide) (by rfl) (pa_cons (pv 0) pa_nil)) (pe_one (pe_chain op_le op_le (pv 1) (pv 0) (pv 2))))))
abbrev N_are_short : List Str := ["value", "entry"]
theorem sc_are_short : FnScope N_are_short ["value"] (defScope s_are_short) := ⟨rfl, rfl, rfl, by decide +kernel, rfl, by decide +kernel, by decide +kernel⟩
def t_are_short (K : PySem.W.Frag) : TS := (tRet (tAndV (tCB (rIsi K) (tCons (tVar 0) (tCons (tC (.ty "tuple")) tNil))) (tCB (rAll K) (tCons (tLc (iTup K (tVar 0)) (gName 1) tYes (tCall (sp_is_short K) [] E0 (tCons (tVar 1) tNil)) [1]) tNil))))
structure C_are_short (P : Program) (w : World) (K : PySem.W.Frag) (mg : Str → Option Value) (base : Heap) : Prop where
  is_short_ : C8.Cal P w K mg base 2 "is_short" (sp_is_short K) []
theorem der_are_short {P : Program} {w : World} {K : PySem.W.Frag} {mg : Str → Option Value} {base : Heap} {f : Addr} (T : Gb mg) (C : C_are_short P w K mg base) (cdv : Value) (A : Around) (outer : List Env) (s : Shared) (H : Hp) (E : XK) (hr : Room 2 (A.deeper (envOfC "are_short" (defScope s_are_short) s.heap.objs.size f cdv))) :
    PSs (cxOf CX0 P w K mg base N_are_short "are_short" (defScope s_are_short) f cdv A outer s H E).nox (defBody s_are_short) (t_are_short K) :=
  (pss_one (ps_ret (pe_and (pe_callB call_isi (by rfl) T.isinstance_ (by decide +kernel) (pa_cons (pv 0) (pa_cons (pe_bltn (v := .ty "tuple") (by rfl) T.tuple_ (by decide +kernel) rfl) pa_nil))) (pe_one (pe_callB (cr_all rfl) (by rfl) T.all_ (by decide +kernel) (pa_cons (pe_lc (own := [("entry", 1)]) rfl sc_are_short.nd (pi_tup (pv 0)) (blkOk_by (own := [("entry", 1)]) (N := N_are_short) (sc := defScope s_are_short) (by decide +kernel)) (fun _ _ _ _ _ => (pg_name (i := 1) sc_are_short.nd rfl (Or.inl rfl))) (fun _ _ _ _ _ => pts_nil) (fun _ _ _ _ _ => (C8.pe_c C.is_short_ hr (by decide) (by rfl) (pa_cons (pv 1) pa_nil)))) pa_nil))))))
abbrev N_are_entries : List Str := ["value"]
theorem sc_are_entries : FnScope N_are_entries ["value"] (defScope s_are_entries) := ⟨rfl, rfl, rfl, by decide +kernel, rfl, by decide +kernel, by decide +kernel⟩
def t_are_entries (K : PySem.W.Frag) : TS := (tRet (tAndV (tCall (sp_are_short K) [] E0 (tCons (tVar 0) tNil)) (tChain rLeB rLeB (tC (.int 1)) (tCB (rLen K) (tCons (tVar 0) tNil)) (tOp rAddI (tC (.int 40)) (tC (.int 1))))))
structure C_are_entries (P : Program) (w : World) (K : PySem.W.Frag) (mg : Str → Option Value) (base : Heap) : Prop where
  are_short_ : C8.Cal P w K mg base 3 "are_short" (sp_are_short K) []
theorem der_are_entries {P : Program} {w : World} {K : PySem.W.Frag} {mg : Str → Option Value} {base : Heap} {f : Addr} (T : Gb mg) (C : C_are_entries P w K mg base) (cdv : Value) (A : Around) (outer : List Env) (s : Shared) (H : Hp) (E : XK) (hr : Room 3 (A.deeper (envOfC "are_entries" (defScope s_are_entries) s.heap.objs.size f cdv))) :
    PSs (cxOf CX0 P w K mg base N_are_entries "are_entries" (defScope s_are_entries) f cdv A outer s H E).nox (defBody s_are_entries) (t_are_entries K) :=
  (pss_one (ps_ret (pe_and (C8.pe_c C.are_short_ hr (by decide) (by rfl) (pa_cons (pv 0) pa_nil)) (pe_one (pe_chain op_le op_le pe_int (pe_callB call_len_seq (by rfl) T.len_ (by decide +kernel) (pa_cons (pv 0) pa_nil)) (pe_op op_add (C8.pe_gc (by rfl) T.MAX_DEGREE_) pe_int))))))
abbrev N_lots_of : List Str := ["many", "few", "found", "at"]
theorem sc_lots_of : FnScope N_lots_of ["many", "few"] (defScope s_lots_of) := ⟨rfl, rfl, rfl, by decide +kernel, rfl, by decide +kernel, by decide +kernel⟩
def t_lots_of (K : PySem.W.Frag) : TS := (tSeq (tAsg (tC (.int 1)) (gName 2))
  (tSeq (tFor (iRng1 (tCons (tVar 1) tNil)) (gName 3) (tAsg (tOp rDivI (tOp rMulI (tVar 2) (tOp rSubI (tVar 0) (tVar 3))) (tOp rAddI (tVar 3) (tC (.int 1)))) (gName 2)))
  (tRet (tVar 2))))
theorem der_lots_of {P : Program} {w : World} {K : PySem.W.Frag} {mg : Str → Option Value} {base : Heap} {f : Addr} (T : Gb mg) (cdv : Value) (A : Around) (outer : List Env) (s : Shared) (H : Hp) (E : XK) (hr : Room 0 (A.deeper (envOfC "lots_of" (defScope s_lots_of) s.heap.objs.size f cdv))) :
    PSs (cxOf CX0 P w K mg base N_lots_of "lots_of" (defScope s_lots_of) f cdv A outer s H E).nox (defBody s_lots_of) (t_lots_of K) :=
  (pss_cons (ps_set (i := 2) sc_lots_of.nd rfl (.inl rfl) pe_int)
      (pss_cons (ps_for PassesOwn.never rfl (pi_range1 rfl T.range_ (pa_cons (pv 1) pa_nil)) (pg_name (i := 3) sc_lots_of.nd rfl (Or.inl rfl)) (pss_one (ps_set (i := 2) sc_lots_of.nd rfl (.inl rfl) (pe_op op_fdiv (pe_op op_mul (pv 2) (pe_op op_sub (pv 0) (pv 3))) (pe_op op_add (pv 3) pe_int)))))
      (pss_one (ps_ret (pv 2)))))
abbrev N_is_zero_in : List Str := ["entries"]
theorem sc_is_zero_in : FnScope N_is_zero_in ["entries"] (defScope s_is_zero_in) := ⟨rfl, rfl, rfl, by decide +kernel, rfl, by decide +kernel, by decide +kernel⟩
def t_is_zero_in (K : PySem.W.Frag) : TS := (tRet (tNotV (tCB (rAnyT K) (tCons (tVar 0) tNil))))
theorem der_is_zero_in {P : Program} {w : World} {K : PySem.W.Frag} {mg : Str → Option Value} {base : Heap} {f : Addr} (T : Gb mg) (cdv : Value) (A : Around) (outer : List Env) (s : Shared) (H : Hp) (E : XK) (hr : Room 0 (A.deeper (envOfC "is_zero_in" (defScope s_is_zero_in) s.heap.objs.size f cdv))) :
    PSs (cxOf CX0 P w K mg base N_is_zero_in "is_zero_in" (defScope s_is_zero_in) f cdv A outer s H E).nox (defBody s_is_zero_in) (t_is_zero_in K) :=
  (pss_one (ps_ret (pe_not (pe_callB (cr_anyT rfl) (by rfl) T.any_ (by decide +kernel) (pa_cons (pv 0) pa_nil)))))
abbrev N_Told_init : List Str := ["self", "row"]
theorem sc_Told_init : FnScope N_Told_init ["self", "row"] (defScope s_Told_init) := ⟨rfl, rfl, rfl, by decide +kernel, rfl, by decide +kernel, by decide +kernel⟩
def t_Told_init (K : PySem.W.Frag) : TS := (SlX.sSl K (tVar 0) (tVar 1) "own_row")
theorem der_Told_init {P : Program} {w : World} {K : PySem.W.Frag} {mg : Str → Option Value} {base : Heap} {f : Addr} (T : Gb mg) (cdv : Value) (A : Around) (outer : List Env) (s : Shared) (H : Hp) (E : XK) (hr : Room 0 (A.deeper (envOfC "Told.__init__" (defScope s_Told_init) s.heap.objs.size f cdv))) :
    PSs (cxOf CX0 P w K mg base N_Told_init "Told.__init__" (defScope s_Told_init) f cdv A outer s H E).nox (defBody s_Told_init) (t_Told_init K) :=
  (pss_one (SlX.ps_sl (pv 0) (pv 1)))
abbrev N_Form_init : List Str := ["self", "entries"]
theorem sc_Form_init : FnScope N_Form_init ["self", "entries"] (defScope s_Form_init) := ⟨rfl, rfl, rfl, by decide +kernel, rfl, by decide +kernel, by decide +kernel⟩
def t_Form_inita (K : PySem.W.Frag) : TS := (tSeq (tIfS (tAnd (tNot (tB (tCB (rIsi K) (tCons (tVar 1) (tCons (tC (.ref 337)) tNil))))) (tNot (tB (tCall (sp_are_entries K) [] E0 (tCons (tVar 1) tNil))))) tNever tNext)
  (SlX.sSl K (tVar 0) (tIf (tB (tCB (rIsi K) (tCons (tVar 1) (tCons (tC (.ref 337)) tNil)))) (SlX.tSl K (tVar 1) "own_row") (tVar 1)) "own_entries"))
structure C_Form_init (P : Program) (w : World) (K : PySem.W.Frag) (mg : Str → Option Value) (base : Heap) : Prop where
  are_entries_ : C8.Cal P w K mg base 4 "are_entries" (sp_are_entries K) []
theorem der_Form_inita {P : Program} {w : World} {K : PySem.W.Frag} {mg : Str → Option Value} {base : Heap} {f : Addr} (T : Gb mg) (C : C_Form_init P w K mg base) (cdv : Value) (A : Around) (outer : List Env) (s : Shared) (H : Hp) (E : XK) (hr : Room 4 (A.deeper (envOfC "Form.__init__" (defScope s_Form_init) s.heap.objs.size f cdv))) :
    PSs (cxOf CX0 P w K mg base N_Form_init "Form.__init__" (defScope s_Form_init) f cdv A outer s H E).nox (defBody s_Form_init) (t_Form_inita K) :=
  (pss_cons (ps_if (PW.pt (pw_and (pt_not (pt_val (pe_callB call_isi (by rfl) T.isinstance_ (by decide +kernel) (pa_cons (pv 1) (pa_cons (C8.pe_gc (by rfl) ⟨_, T.Told_, rfl⟩) pa_nil))))) (pw_and1 (pt_not (pt_val (C8.pe_c C.are_entries_ hr (by decide) (by rfl) (pa_cons (pv 1) pa_nil))))))) (pss_one ps_never) pss_nil)
      (pss_one (SlX.ps_sl (pv 0) (pe_ifExp (pt_val (pe_callB call_isi (by rfl) T.isinstance_ (by decide +kernel) (pa_cons (pv 1) (pa_cons (C8.pe_gc (by rfl) ⟨_, T.Told_, rfl⟩) pa_nil)))) (SlX.pe_sl (pv 1)) (pv 1)))))
def t_Form_initb (K : PySem.W.Frag) : TS := (tSeq (tIfS (tAnd (tNot (tB (tCB (SlX.rIsiSl K (.ref 337)) (tCons (tVar 1) (tCons (tC (.ref 337)) tNil))))) (tNot (tB (tCall (sp_are_entries K) [] E0 (tCons (tVar 1) tNil))))) tNever tNext)
  (SlX.sSl K (tVar 0) (tIf (tB (tCB (SlX.rIsiSl K (.ref 337)) (tCons (tVar 1) (tCons (tC (.ref 337)) tNil)))) (SlX.tSl K (tVar 1) "own_row") (tVar 1)) "own_entries"))
theorem der_Form_initb {P : Program} {w : World} {K : PySem.W.Frag} {mg : Str → Option Value} {base : Heap} {f : Addr} (T : Gb mg) (C : C_Form_init P w K mg base) (cdv : Value) (A : Around) (outer : List Env) (s : Shared) (H : Hp) (E : XK) (hr : Room 4 (A.deeper (envOfC "Form.__init__" (defScope s_Form_init) s.heap.objs.size f cdv))) :
    PSs (cxOf CX0 P w K mg base N_Form_init "Form.__init__" (defScope s_Form_init) f cdv A outer s H E).nox (defBody s_Form_init) (t_Form_initb K) :=
  (pss_cons (ps_if (PW.pt (pw_and (pt_not (pt_val (pe_callB (SlX.call_isiSl (.ref 337)) (by rfl) T.isinstance_ (by decide +kernel) (pa_cons (pv 1) (pa_cons (C8.pe_gc (by rfl) ⟨_, T.Told_, rfl⟩) pa_nil))))) (pw_and1 (pt_not (pt_val (C8.pe_c C.are_entries_ hr (by decide) (by rfl) (pa_cons (pv 1) pa_nil))))))) (pss_one ps_never) pss_nil)
      (pss_one (SlX.ps_sl (pv 0) (pe_ifExp (pt_val (pe_callB (SlX.call_isiSl (.ref 337)) (by rfl) T.isinstance_ (by decide +kernel) (pa_cons (pv 1) (pa_cons (C8.pe_gc (by rfl) ⟨_, T.Told_, rfl⟩) pa_nil)))) (SlX.pe_sl (pv 1)) (pv 1)))))
abbrev N_Form_entries : List Str := ["self"]
theorem sc_Form_entries : FnScope N_Form_entries ["self"] (defScope s_Form_entries) := ⟨rfl, rfl, rfl, by decide +kernel, rfl, by decide +kernel, by decide +kernel⟩
def t_Form_entries (K : PySem.W.Frag) : TS := (tRet (SlX.tSl K (tVar 0) "own_entries"))
theorem der_Form_entries {P : Program} {w : World} {K : PySem.W.Frag} {mg : Str → Option Value} {base : Heap} {f : Addr} (T : Gb mg) (cdv : Value) (A : Around) (outer : List Env) (s : Shared) (H : Hp) (E : XK) (hr : Room 0 (A.deeper (envOfC "Form.entries" (defScope s_Form_entries) s.heap.objs.size f cdv))) :
    PSs (cxOf CX0 P w K mg base N_Form_entries "Form.entries" (defScope s_Form_entries) f cdv A outer s H E).nox (defBody s_Form_entries) (t_Form_entries K) :=
  (pss_one (ps_ret (SlX.pe_sl (pv 0))))
abbrev N_Form_degree : List Str := ["self"]
theorem sc_Form_degree : FnScope N_Form_degree ["self"] (defScope s_Form_degree) := ⟨rfl, rfl, rfl, by decide +kernel, rfl, by decide +kernel, by decide +kernel⟩
def t_Form_degree (K : PySem.W.Frag) : TS := (tRet (tOp rSubI (tCB (rLen K) (tCons (SlX.tSl K (tVar 0) "own_entries") tNil)) (tC (.int 1))))
theorem der_Form_degree {P : Program} {w : World} {K : PySem.W.Frag} {mg : Str → Option Value} {base : Heap} {f : Addr} (T : Gb mg) (cdv : Value) (A : Around) (outer : List Env) (s : Shared) (H : Hp) (E : XK) (hr : Room 0 (A.deeper (envOfC "Form.degree" (defScope s_Form_degree) s.heap.objs.size f cdv))) :
    PSs (cxOf CX0 P w K mg base N_Form_degree "Form.degree" (defScope s_Form_degree) f cdv A outer s H E).nox (defBody s_Form_degree) (t_Form_degree K) :=
  (pss_one (ps_ret (pe_op op_sub (pe_callB call_len_seq (by rfl) T.len_ (by decide +kernel) (pa_cons (SlX.pe_sl (pv 0)) pa_nil)) pe_int)))
abbrev N_Form_is_zero : List Str := ["self"]
theorem sc_Form_is_zero : FnScope N_Form_is_zero ["self"] (defScope s_Form_is_zero) := ⟨rfl, rfl, rfl, by decide +kernel, rfl, by decide +kernel, by decide +kernel⟩
def t_Form_is_zero (K : PySem.W.Frag) : TS := (tRet (tCall (sp_is_zero_in K) [] E0 (tCons (SlX.tSl K (tVar 0) "own_entries") tNil)))
structure C_Form_is_zero (P : Program) (w : World) (K : PySem.W.Frag) (mg : Str → Option Value) (base : Heap) : Prop where
  is_zero_in_ : C8.Cal P w K mg base 1 "is_zero_in" (sp_is_zero_in K) []
theorem der_Form_is_zero {P : Program} {w : World} {K : PySem.W.Frag} {mg : Str → Option Value} {base : Heap} {f : Addr} (T : Gb mg) (C : C_Form_is_zero P w K mg base) (cdv : Value) (A : Around) (outer : List Env) (s : Shared) (H : Hp) (E : XK) (hr : Room 1 (A.deeper (envOfC "Form.is_zero" (defScope s_Form_is_zero) s.heap.objs.size f cdv))) :
    PSs (cxOf CX0 P w K mg base N_Form_is_zero "Form.is_zero" (defScope s_Form_is_zero) f cdv A outer s H E).nox (defBody s_Form_is_zero) (t_Form_is_zero K) :=
  (pss_one (ps_ret (C8.pe_c C.is_zero_in_ hr (by decide) (by rfl) (pa_cons (SlX.pe_sl (pv 0)) pa_nil))))
abbrev N_form_of : List Str := ["entries"]
theorem sc_form_of : FnScope N_form_of ["entries"] (defScope s_form_of) := ⟨rfl, rfl, rfl, by decide +kernel, rfl, by decide +kernel, by decide +kernel⟩
def t_form_of (K : PySem.W.Frag) : TS := (tRet (tMake 511 (sp_Form K) [] E0 (tCons (tMake 337 (sp_Told K) [] E0 (tCons (tVar 0) tNil)) tNil)))
structure C_form_of (P : Program) (w : World) (K : PySem.W.Frag) (mg : Str → Option Value) (base : Heap) : Prop where
  Told_ : C8.Mak P w K mg base 1 "Told" 337 (sp_Told K) []
  Form_ : C8.Mak P w K mg base 5 "Form" 511 (sp_Form K) []
theorem der_form_of {P : Program} {w : World} {K : PySem.W.Frag} {mg : Str → Option Value} {base : Heap} {f : Addr} (T : Gb mg) (C : C_form_of P w K mg base) (cdv : Value) (A : Around) (outer : List Env) (s : Shared) (H : Hp) (E : XK) (hr : Room 6 (A.deeper (envOfC "form_of" (defScope s_form_of) s.heap.objs.size f cdv))) :
    PSs (cxOf CX0 P w K mg base N_form_of "form_of" (defScope s_form_of) f cdv A outer s H E).nox (defBody s_form_of) (t_form_of K) :=
  (pss_one (ps_ret (C8.pe_mk C.Form_ hr (by decide) (by rfl) (pa_cons (C8.pe_mk C.Told_ hr (by decide) (by rfl) (pa_cons (pv 0) pa_nil)) pa_nil))))
abbrev N_require_form : List Str := ["value"]
theorem sc_require_form : FnScope N_require_form ["value"] (defScope s_require_form) := ⟨rfl, rfl, rfl, by decide +kernel, rfl, by decide +kernel, by decide +kernel⟩
def t_require_form (K : PySem.W.Frag) : TS := (tIfS (tNot (tB (tCB (SlX.rIsiSl K (.ref 511)) (tCons (tVar 0) (tCons (tC (.ref 511)) tNil))))) tNever tNext)
theorem der_require_form {P : Program} {w : World} {K : PySem.W.Frag} {mg : Str → Option Value} {base : Heap} {f : Addr} (T : Gb mg) (cdv : Value) (A : Around) (outer : List Env) (s : Shared) (H : Hp) (E : XK) (hr : Room 0 (A.deeper (envOfC "require_form" (defScope s_require_form) s.heap.objs.size f cdv))) :
    PSs (cxOf CX0 P w K mg base N_require_form "require_form" (defScope s_require_form) f cdv A outer s H E).nox (defBody s_require_form) (t_require_form K) :=
  (pss_one (ps_if (pt_not (pt_val (pe_callB (SlX.call_isiSl (.ref 511)) (by rfl) T.isinstance_ (by decide +kernel) (pa_cons (pv 0) (pa_cons (C8.pe_gc (by rfl) ⟨_, T.Form_, rfl⟩) pa_nil))))) (pss_one ps_never) pss_nil))
theorem bw_is_whole : BindsW "is_whole" s_is_whole ["value"] := fun kV doc pm an cdv ct us h => by
  match us, h with
  | [_], _ => rfl
theorem bw_is_short : BindsW "is_short" s_is_short ["value"] := fun kV doc pm an cdv ct us h => by
  match us, h with
  | [_], _ => rfl
theorem bw_is_from : BindsW "is_from" s_is_from ["value", "least", "most"] := fun kV doc pm an cdv ct us h => by
  match us, h with
  | [_, _, _], _ => rfl
theorem bw_are_short : BindsW "are_short" s_are_short ["value"] := fun kV doc pm an cdv ct us h => by
  match us, h with
  | [_], _ => rfl
theorem bw_are_entries : BindsW "are_entries" s_are_entries ["value"] := fun kV doc pm an cdv ct us h => by
  match us, h with
  | [_], _ => rfl
theorem bw_lots_of : BindsW "lots_of" s_lots_of ["many", "few"] := fun kV doc pm an cdv ct us h => by
  match us, h with
  | [_, _], _ => rfl
theorem bw_is_zero_in : BindsW "is_zero_in" s_is_zero_in ["entries"] := fun kV doc pm an cdv ct us h => by
  match us, h with
  | [_], _ => rfl
theorem bw_Told_init : BindsQ "__init__" "Told.__init__" s_Told_init ["self", "row"] := fun kV doc pm an cdv ct us h => by
  match us, h with
  | [_, _], _ => rfl
theorem bw_Form_init : BindsQ "__init__" "Form.__init__" s_Form_init ["self", "entries"] := fun kV doc pm an cdv ct us h => by
  match us, h with
  | [_, _], _ => rfl
theorem bw_Form_entries : BindsQ "entries" "Form.entries" s_Form_entries ["self"] := fun kV doc pm an cdv ct us h => by
  match us, h with
  | [_], _ => rfl
theorem bw_Form_degree : BindsQ "degree" "Form.degree" s_Form_degree ["self"] := fun kV doc pm an cdv ct us h => by
  match us, h with
  | [_], _ => rfl
theorem bw_Form_is_zero : BindsQ "is_zero" "Form.is_zero" s_Form_is_zero ["self"] := fun kV doc pm an cdv ct us h => by
  match us, h with
  | [_], _ => rfl
theorem bw_form_of : BindsW "form_of" s_form_of ["entries"] := fun kV doc pm an cdv ct us h => by
  match us, h with
  | [_], _ => rfl
theorem bw_require_form : BindsW "require_form" s_require_form ["value"] := fun kV doc pm an cdv ct us h => by
  match us, h with
  | [_], _ => rfl
section
variable {P : Program} {w : World} {K : PySem.W.Frag} {mg : Str → Option Value} {base : Heap}
theorem cal_is_whole (T : Gb mg) (D : Dfn K mg "is_whole" s_is_whole) : C8.Cal P w K mg base 1 "is_whole" (sp_is_whole K) [] :=
  calP D sc_is_whole bw_is_whole (by rintro Rs R ⟨n, rfl, _⟩; rfl) (fun f cdv A outer s H E hr => der_is_whole T cdv A outer s H E hr) (by
    rintro Rs R ⟨n, rfl, rfl⟩ H0 σ H a Q q
    exact w_ret a (R := IsB true) (e_andV (a := true) (b := true) (e_isiInt (by decide +kernel) (e_var rfl)) fun _ => e_notV (a := false) (e_isiInt (by decide +kernel) (e_var rfl))) fun v H' a' p => q v H' a'.kp a'.me p)
theorem cal_is_short (T : Gb mg) (C : C_is_short P w K mg base) (D : Dfn K mg "is_short" s_is_short) : C8.Cal P w K mg base 2 "is_short" (sp_is_short K) [] :=
  calP D sc_is_short bw_is_short (by rintro Rs R ⟨n, rfl, _⟩; rfl) (fun f cdv A outer s H E hr => der_is_short T C cdv A outer s H E hr) (by
    rintro Rs R ⟨n, rfl, hn, rfl⟩ H0 σ H a Q q
    have hb : (decide (-(10 ^ 60 : Int) < n) && decide (n < (10 ^ 60 : Int))) = true := by
      rw [decide_eq_true (by omega), decide_eq_true (by omega)]; rfl
    exact w_ret a (R := IsB true) (e_andV (a := true) (b := true) (e_call (a_cons (e_var rfl) a_nil) ⟨_, rfl, rfl⟩) fun _ => (e_chain (e_neg e_c) (e_var rfl) e_c).isB hb) fun v H' a' p => q v H' a'.kp a'.me p)
theorem cal_is_from (T : Gb mg) (C : C_is_from P w K mg base) (D : Dfn K mg "is_from" s_is_from) : C8.Cal P w K mg base 2 "is_from" (sp_is_from K) [] :=
  calP D sc_is_from bw_is_from (by rintro Rs R ⟨n, x, y, rfl, _⟩; rfl) (fun f cdv A outer s H E hr => der_is_from T C cdv A outer s H E hr) (by
    rintro Rs R ⟨n, x, y, rfl, h1, h2, rfl⟩ H0 σ H a Q q
    have hb : (decide (x ≤ n) && decide (n ≤ y)) = true := by
      rw [decide_eq_true h1, decide_eq_true h2]; rfl
    exact w_ret a (R := IsB true) (e_andV (a := true) (b := true) (e_call (a_cons (e_var rfl) a_nil) ⟨_, rfl, rfl⟩) fun _ => (e_chain (e_var rfl) (e_var rfl) (e_var rfl)).isB hb) fun v H' a' p => q v H' a'.kp a'.me p)
theorem cal_are_short (T : Gb mg) (C : C_are_short P w K mg base) (D : Dfn K mg "are_short" s_are_short) : C8.Cal P w K mg base 3 "are_short" (sp_are_short K) [] :=
  calP D sc_are_short bw_are_short (by rintro Rs R ⟨f, rfl, _⟩; rfl) (fun f cdv A outer s H E hr => der_are_short T C cdv A outer s H E hr) (by
    rintro Rs R ⟨f, rfl, hf, hl, rfl⟩ H0 σ H a Q q
    have hI := el_lc0 (vs := [1]) (g := gName 1) (te := tCall (sp_is_short K) [] E0 (tCons (tVar 1) tNil)) (rs' := fun i => [some (TuI K f), some (IsI (f.getD i 0))]) (F := fun _ => IsB true) (ij_tupI (K := K) (c := ⟨H0, [], []⟩) (rs := [some (TuI K f), none]) (ms := []) (te := tVar 0) (e_var rfl)) hl (fun i hi c ms => g_name) (fun i hi x D acc => e_call (a_cons (e_var rfl) a_nil) ⟨_, rfl, hf i, rfl⟩)
    rw [range_const] at hI
    exact w_ret a (R := IsB true) (e_andV (a := true) (b := true) (e_isiTup (by decide +kernel) (e_var rfl)) fun _ => e_allB hI) fun v H' a' p => q v H' a'.kp a'.me p)
theorem cal_are_entries (T : Gb mg) (C : C_are_entries P w K mg base) (D : Dfn K mg "are_entries" s_are_entries) : C8.Cal P w K mg base 4 "are_entries" (sp_are_entries K) [] :=
  calP D sc_are_entries bw_are_entries (by rintro Rs R ⟨f, rfl, _⟩; rfl) (fun f cdv A outer s H E hr => der_are_entries T C cdv A outer s H E hr) (by
    rintro Rs R ⟨f, rfl, hf, h1, h2, rfl⟩ H0 σ H a Q q
    have hb : (decide ((1 : Int) ≤ (f.length : Int)) && decide ((f.length : Int) ≤ 40 + 1)) = true := by
      rw [decide_eq_true (by omega), decide_eq_true (by omega)]; rfl
    exact w_ret a (R := IsB true) (e_andV (a := true) (b := true) (e_call (a_cons (e_var rfl) a_nil) ⟨_, rfl, hf, by omega, rfl⟩) fun _ => (e_chain e_c (e_lenI (e_var rfl)) (e_opI0 e_c e_c)).isB hb) fun v H' a' p => q v H' a'.kp a'.me p)
theorem cal_lots_of (T : Gb mg) (D : Dfn K mg "lots_of" s_lots_of) : C8.Cal P w K mg base 1 "lots_of" (sp_lots_of K) [] :=
  calP D sc_lots_of bw_lots_of (by rintro Rs R ⟨x, n, rfl, _⟩; rfl) (fun f cdv A outer s H E hr => der_lots_of T cdv A outer s H E hr) (by
    rintro Rs R ⟨m, n, rfl, hm, hn, rfl⟩ H0 σ H a Q q
    refine w_seq (w_set a e_c fun σ1 H1 a1 => w_seq (w_for a1 (ij_rng (n := (n : Int)) (a_cons (e_var rfl) a_nil) (by omega)) (fun i => [some (IsI (m : Int)), some (IsI (n : Int)), some (IsI (lots m i)), none]) (fun i => [some (IsI (m : Int)), some (IsI (n : Int)), some (IsI (lots m i)), some (IsI (i : Int))]) (fun _ => []) (fun c σ H b => b.wk ?_) (fun i m hm => by cases hm) (fun i hi c => g_name) (fun i hi gg nx' bk' ct' σ H b k => w_set b (e_opI (e_opI (e_var rfl) (e_opI0 (e_var rfl) (e_var rfl)) (.inr ?_)) (e_opI0 (e_var rfl) e_c) ?_) fun σ' H' b' => k σ' H' (b'.wk ?_)) fun σ H b => w_ret b (e_var rfl) fun v H' a' p => q v H' a'.kp a'.me ?_))
    · walk_at "wk"
    · omega
    · show 0 < (i : Int) + 1 ∧ (i : Int) + 1 < 1073741824
      omega
    · refine wk_some (fun _ _ h => h) (wk_some (fun _ _ h => h) (wk_some (fun v H h => h) (wk_none wk_nil)))
    · exact p)
theorem cal_is_zero_in (T : Gb mg) (D : Dfn K mg "is_zero_in" s_is_zero_in) : C8.Cal P w K mg base 1 "is_zero_in" (sp_is_zero_in K) [] :=
  calP D sc_is_zero_in bw_is_zero_in (by rintro Rs R ⟨n, rfl, _⟩; rfl) (fun f cdv A outer s H E hr => der_is_zero_in T cdv A outer s H E hr) (by
    rintro Rs R ⟨f, rfl, rfl⟩ H0 σ H a Q q
    exact w_ret a (e_notV (e_anyT (e_var rfl))) fun v H' a' p => q v H' a'.kp a'.me p)
/-! ### the classes -/
theorem mak_Told (T : Gb mg) (k : Cf K) {fd : FuncData} (F : FunD K "__init__" "Told.__init__" (defArgs s_Told_init) (defBody s_Told_init) (defScope s_Told_init) [] [] 333 fd) : C8.Mak P w K mg base 1 "Told" 337 (sp_Told K) [] :=
  ⟨⟨333, fd, _, [], k.t.mak, okIq F sc_Told_init rfl (fun cdv A outer s H E hr => der_Told_init T cdv A outer s H E hr) (by
    rintro R g y dx rfl H0 h0 σ H a Q q
    exact w_slot k.t a h0 (e_var rfl) (e_var rfl) q), T.Told_, FunD.bindsN F bw_Told_init, .nil⟩⟩
theorem mak_Form (T : Gb mg) (C : C_Form_init P w K mg base) (k : Cf K) {fd : FuncData} (F : FunD K "__init__" "Form.__init__" (defArgs s_Form_init) (defBody s_Form_init) (defScope s_Form_init) [] [] 362 fd) : C8.Mak P w K mg base 5 "Form" 511 (sp_Form K) [] :=
  ⟨⟨362, fd, _, [], k.f.mak, okIq F sc_Form_init rfl (fun cdv A outer s H E hr => pss_or (der_Form_inita T C cdv A outer s H E hr) (der_Form_initb T C cdv A outer s H E hr)) (by
    rintro R g y dx (⟨rfl, hb, h1, h2⟩ | rfl) H0 h0 σ H a Q q
    · refine .inl (w_seq (w_if (b := false) a (t_and (a := true) (b := false) (t_not (a := false) (t_b (e_isiTupOwn k.kn (e_var rfl)))) fun _ => t_not (a := true) (t_b (e_call (a_cons (e_var rfl) a_nil) ⟨_, rfl, hb, h1, h2, rfl⟩))) (fun z => by cases z) fun _ H1 a1 => w_next (w_slot k.f a1 h0 (e_var rfl) (e_if (b := false) (t_b (e_isiTupOwn k.kn (e_var rfl))) (fun z => by cases z) fun _ => e_var rfl) q)))
    · refine .inr (w_seq (w_if (b := false) a (t_and (a := false) (b := false) (t_not (a := true) (t_b (e_isiOwn k.t (e_var rfl)))) fun z => by cases z) (fun z => by cases z) fun _ H1 a1 => w_next (w_slot k.f a1 h0 (e_var rfl) (e_if (b := true) (t_b (e_isiOwn k.t (e_var rfl))) (fun _ => e_own k.t (e_var rfl)) fun z => by cases z) q)))), T.Form_, FunD.bindsN F bw_Form_init, .nil⟩⟩
theorem prp_of {f : Str} {p g : Addr} {fd : FuncData} {ps : List Str} {j : Nat} {sp : Sp} (k : Cf K) (F : FnOk P w K mg base CX0 j g fd ps sp) (b : Binds K fd ps []) (h1 : PySem.W.findIn K (.ref 511) f = some (some (.ref p))) (h2 : PySem.W.specialIn K (.ref p) "__get__" = some (some (.builtin "property.__get__"))) (h3 : PySem.W.takesIn K (.ref p) = some true) (h4 : ∃ rest, PySem.W.recIn K p "property" = some (.ref g :: rest)) : Prp P w K mg base j f sp :=
  ⟨k.f.sc, p, g, h1, h2, h3, h4, (F.raw b .nil).imp fun vs H Q E h => by rw [List.append_nil]; exact h⟩
theorem ok_entries (T : Gb mg) (k : Cf K) {g : Addr} {fd : FuncData} (F : FunD K "entries" "Form.entries" (defArgs s_Form_entries) (defBody s_Form_entries) (defScope s_Form_entries) [] [] g fd) : FnOk P w K mg base CX0 1 g fd ["self"] (sp_Form_entries K) :=
  okPq F sc_Form_entries (by rintro Rs R ⟨f, rfl, _⟩; rfl) (fun cdv A outer s H E hr => der_Form_entries T cdv A outer s H E hr) (by
    rintro Rs R ⟨f, rfl, rfl⟩ H0 σ H a Q q
    exact w_ret a (e_own k.f (e_var rfl)) fun v H' a' p => q v H' a'.kp a'.me p)
theorem ok_degree (T : Gb mg) (k : Cf K) {g : Addr} {fd : FuncData} (F : FunD K "degree" "Form.degree" (defArgs s_Form_degree) (defBody s_Form_degree) (defScope s_Form_degree) [] [] g fd) : FnOk P w K mg base CX0 1 g fd ["self"] (sp_Form_degree K) :=
  okPq F sc_Form_degree (by rintro Rs R ⟨f, rfl, _⟩; rfl) (fun cdv A outer s H E hr => der_Form_degree T cdv A outer s H E hr) (by
    rintro Rs R ⟨f, rfl, rfl⟩ H0 σ H a Q q
    exact w_ret a (e_opI0 (e_lenI (e_own k.f (e_var rfl))) e_c) fun v H' a' p => q v H' a'.kp a'.me p)
theorem ok_is_zero (T : Gb mg) (C : C_Form_is_zero P w K mg base) (k : Cf K) {g : Addr} {fd : FuncData} (F : FunD K "is_zero" "Form.is_zero" (defArgs s_Form_is_zero) (defBody s_Form_is_zero) (defScope s_Form_is_zero) [] [] g fd) : FnOk P w K mg base CX0 2 g fd ["self"] (sp_Form_is_zero K) :=
  okPq F sc_Form_is_zero (by rintro Rs R ⟨f, rfl, _⟩; rfl) (fun cdv A outer s H E hr => der_Form_is_zero T C cdv A outer s H E hr) (by
    rintro Rs R ⟨f, rfl, rfl⟩ H0 σ H a Q q
    exact w_ret a (e_call (a_cons (e_own k.f (e_var rfl)) a_nil) ⟨_, rfl, rfl⟩) fun v H' a' p => q v H' a'.kp a'.me p)
theorem cal_form_of (T : Gb mg) (C : C_form_of P w K mg base) (D : Dfn K mg "form_of" s_form_of) : C8.Cal P w K mg base 7 "form_of" (sp_form_of K) [] :=
  calP D sc_form_of bw_form_of (by rintro Rs R ⟨n, rfl, _⟩; rfl) (fun f cdv A outer s H E hr => der_form_of T C cdv A outer s H E hr) (by
    rintro Rs R ⟨f, rfl, rfl⟩ H0 σ H a Q q
    exact w_ret a (e_make (a_cons (e_make (a_cons (e_var rfl) a_nil) rfl) a_nil) (.inr rfl)) fun v H' a' p => q v H' a'.kp a'.me p)
theorem cal_require_form (T : Gb mg) (k : Cf K) (D : Dfn K mg "require_form" s_require_form) : C8.Cal P w K mg base 1 "require_form" (sp_require_form K) [] :=
  calP D sc_require_form bw_require_form (by rintro Rs R ⟨n, rfl, _⟩; rfl) (fun f cdv A outer s H E hr => der_require_form T cdv A outer s H E hr) (by
    rintro Rs R ⟨f, rfl, rfl⟩ H0 σ H a Q q
    exact w_if (b := false) a (t_not (a := true) (t_b (e_isiOwn k.f (e_var rfl)))) (fun z => by cases z) fun _ H1 a1 => w_next (q _ _ a1.kp a1.me rfl))
end
end K45
namespace K45
open PySem PySem.Spec PyProof.Rows L2
local macro_rules | `(tactic| walk_at "ev") => `(tactic| repeat' first
  | exact e_var rfl | exact e_c | exact a_nil | refine a_cons ?_ ?_
  | refine e_opI0 ?_ ?_ | refine e_opI ?_ ?_ ?_ | refine e_eqI ?_ ?_ | refine e_neI ?_ ?_ | refine e_neg ?_
  | refine e_lenI ?_ | refine e_lenR ?_ | refine e_abs ?_ | refine e_max ?_ ?_ | refine e_min ?_ ?_ | refine e_intB ?_ | refine e_intI ?_
  | refine e_chain ?_ ?_ ?_ | refine e_ixI ?_ ?_ ?_ ?_ | refine e_ixR ?_ ?_ ?_ ?_
  | refine e_slHead ?_ ?_ ?_ | refine e_slTail ?_ ?_ ?_
  | refine t_test ?_ | refine t_b ?_ | refine e_ifI ?_ ?_ ?_
  | refine ij_zipT ?_ ?_ | refine ij_tupI ?_ | refine ij_rng ?_ ?_
  | exact g_name | exact g_pair)
local macro_rules | `(tactic| walk_at "evn") => `(tactic| repeat' first
  | exact e_var rfl | exact EJ.any e_c | exact EJ.any (e_var rfl) | exact EJ.anyN (e_var rfl) | refine e_diceC (d := ‹Addr›) List.mem_cons_self ?_ (by decide) | refine e_mulL (φ := fun _ => True) (by decide) ?_ | refine e_mulR (φ := fun _ => True) (by decide) ?_ | exact e_c
  | refine e_a0 ?_ ?_ | refine e_intN ?_)
local macro_rules | `(tactic| walk_at "wk") => `(tactic| repeat' first | exact wk_nil | refine wk_none ?_ | refine wk_some (fun _ _ h => h) ?_)
abbrev N_laying_slope : List Str := ["entries", "by_y", "at", "entry"]
theorem sc_laying_slope : FnScope N_laying_slope ["entries", "by_y"] (defScope s_laying_slope) := ⟨rfl, rfl, rfl, by decide +kernel, rfl, by decide +kernel, by decide +kernel⟩
def t_laying_slope (K : PySem.W.Frag) : TS := (tSeq (tIfS (tB (tVar 1)) (tRet (tFrz (tLc (iEnum K (tCons (tFrz (tSl (rSlL K) (tVar 0) (tPart (tC (.int 1))) tNoPart)) tNil)) (L2.gTup K 2 (gCons (gName 2) (gCons (gName 3) gNil))) tYes (tOp rMulI (tVar 3) (tOp rAddI (tVar 2) (tC (.int 1)))) [2, 3]))) tNext)
  (tRet (tFrz (tLc (iEnum K (tCons (tFrz (tSl (rSlL K) (tVar 0) tNoPart (tPart (tUn rNegI (tC (.int 1)))))) tNil)) (L2.gTup K 2 (gCons (gName 2) (gCons (gName 3) gNil))) tYes (tOp rMulI (tVar 3) (tOp rSubI (tOp rSubI (tCB (rLen K) (tCons (tVar 0) tNil)) (tC (.int 1))) (tVar 2))) [2, 3]))))
theorem der_laying_slope {P : Program} {w : World} {K : PySem.W.Frag} {mg : Str → Option Value} {base : Heap} {f : Addr} (T : Gb mg) (cdv : Value) (A : Around) (outer : List Env) (s : Shared) (H : Hp) (E : XK) (hr : Room 0 (A.deeper (envOfC "laying_slope" (defScope s_laying_slope) s.heap.objs.size f cdv))) :
    PSs (cxOf CX0 P w K mg base N_laying_slope "laying_slope" (defScope s_laying_slope) f cdv A outer s H E).nox (defBody s_laying_slope) (t_laying_slope K) :=
  (pss_cons (ps_if (pt_val (pv 1)) (pss_one (ps_ret (pe_frz (pe_lc (own := [("at", 2), ("entry", 3)]) rfl sc_laying_slope.nd (pi_enum (by rfl) T.enumerate_ (pa_cons (pe_frz (pe_slice sl_list (pv 0) (po_some pe_int) po_none)) pa_nil)) (blkOk_by (own := [("at", 2), ("entry", 3)]) (N := N_laying_slope) (sc := defScope s_laying_slope) (by decide +kernel)) (fun _ _ _ _ _ => (pg_tup rfl (pgs_cons (pg_name (i := 2) sc_laying_slope.nd rfl (Or.inl rfl)) (pgs_cons (pg_name (i := 3) sc_laying_slope.nd rfl (Or.inl rfl)) pgs_nil)))) (fun _ _ _ _ _ => pts_nil) (fun _ _ _ _ _ => (pe_op op_mul (pv 3) (pe_op op_add (pv 2) pe_int))))))) pss_nil)
      (pss_one (ps_ret (pe_frz (pe_lc (own := [("at", 2), ("entry", 3)]) rfl sc_laying_slope.nd (pi_enum (by rfl) T.enumerate_ (pa_cons (pe_frz (pe_slice sl_list (pv 0) po_none (po_some (pe_un un_neg pe_int)))) pa_nil)) (blkOk_by (own := [("at", 2), ("entry", 3)]) (N := N_laying_slope) (sc := defScope s_laying_slope) (by decide +kernel)) (fun _ _ _ _ _ => (pg_tup rfl (pgs_cons (pg_name (i := 2) sc_laying_slope.nd rfl (Or.inl rfl)) (pgs_cons (pg_name (i := 3) sc_laying_slope.nd rfl (Or.inl rfl)) pgs_nil)))) (fun _ _ _ _ _ => pts_nil) (fun _ _ _ _ _ => (pe_op op_mul (pv 3) (pe_op op_sub (pe_op op_sub (pe_callB call_len_seq (by rfl) T.len_ (by decide +kernel) (pa_cons (pv 0) pa_nil)) pe_int) (pv 2)))))))))
abbrev N_laying_slopes : List Str := ["entries", "times", "found", "turn", "one"]
theorem sc_laying_slopes : FnScope N_laying_slopes ["entries", "times"] (defScope s_laying_slopes) := ⟨rfl, rfl, rfl, by decide +kernel, rfl, by decide +kernel, by decide +kernel⟩
def t_laying_slopes (K : PySem.W.Frag) : TS := (tSeq (tAsg (tFrz (tLst (tCons (tFrz (tCB (rListOf K) (tCons (tVar 0) tNil))) tNil))) (gName 2))
  (tSeq (tFor (iRng1 (tCons (tVar 1) tNil)) (gName 3) (tAsg (tFrz (tLst (StX.tStar K (tFrz (tLc (iList K (tVar 2)) (gName 4) tYes (tCall (sp_laying_slope K) [] E0 (tCons (tVar 4) (tCons (tC (.bl false)) tNil))) [4])) (tCons (tCall (sp_laying_slope K) [] E0 (tCons (tOp (rIxL K) (tVar 2) (tUn rNegI (tC (.int 1)))) (tCons (tC (.bl true)) tNil))) tNil)))) (gName 2)))
  (tRet (tVar 2))))
structure C_laying_slopes (P : Program) (w : World) (K : PySem.W.Frag) (mg : Str → Option Value) (base : Heap) : Prop where
  laying_slope_ : C8.Cal P w K mg base 1 "laying_slope" (sp_laying_slope K) []
theorem der_laying_slopes {P : Program} {w : World} {K : PySem.W.Frag} {mg : Str → Option Value} {base : Heap} {f : Addr} (T : Gb mg) (C : C_laying_slopes P w K mg base) (cdv : Value) (A : Around) (outer : List Env) (s : Shared) (H : Hp) (E : XK) (hr : Room 1 (A.deeper (envOfC "laying_slopes" (defScope s_laying_slopes) s.heap.objs.size f cdv))) :
    PSs (cxOf CX0 P w K mg base N_laying_slopes "laying_slopes" (defScope s_laying_slopes) f cdv A outer s H E).nox (defBody s_laying_slopes) (t_laying_slopes K) :=
  (pss_cons (ps_set (i := 2) sc_laying_slopes.nd rfl (.inl rfl) (pe_frz (pe_lst (pa_cons (pe_frz (pe_callTy call_list_of (by rfl) T.list_ (by decide +kernel) (pa_cons (pv 0) pa_nil))) pa_nil))))
      (pss_cons (ps_for PassesOwn.never rfl (pi_range1 rfl T.range_ (pa_cons (pv 1) pa_nil)) (pg_name (i := 3) sc_laying_slopes.nd rfl (Or.inl rfl)) (pss_one (ps_set (i := 2) sc_laying_slopes.nd rfl (.inl rfl) (pe_frz (pe_lst (StX.pa_star (pe_frz (pe_lc (own := [("one", 4)]) rfl sc_laying_slopes.nd (pi_list (pv 2)) (blkOk_by (own := [("one", 4)]) (N := N_laying_slopes) (sc := defScope s_laying_slopes) (by decide +kernel)) (fun _ _ _ _ _ => (pg_name (i := 4) sc_laying_slopes.nd rfl (Or.inl rfl))) (fun _ _ _ _ _ => pts_nil) (fun _ _ _ _ _ => (C8.pe_c C.laying_slope_ hr (by decide) (by rfl) (pa_cons (pv 4) (pa_cons pe_bl pa_nil)))))) (pa_cons (C8.pe_c C.laying_slope_ hr (by decide) (by rfl) (pa_cons (pe_ix ix_list (pv 2) (pe_un un_neg pe_int) (fun _ _ => rfl)) (pa_cons pe_bl pa_nil))) pa_nil)))))))
      (pss_one (ps_ret (pv 2)))))
abbrev N_add_product : List Str := ["found", "one", "other", "factor", "at", "first", "place", "second"]
theorem sc_add_product : FnScope N_add_product ["found", "one", "other", "factor"] (defScope s_add_product) := ⟨rfl, rfl, rfl, by decide +kernel, rfl, by decide +kernel, by decide +kernel⟩
def t_add_product (K : PySem.W.Frag) : TS := (tFor (iEnum K (tCons (tVar 1) tNil)) (L2.gTup K 2 (gCons (gName 4) (gCons (gName 5) gNil))) (tFor (iEnum K (tCons (tVar 2) tNil)) (L2.gTup K 2 (gCons (gName 6) (gCons (gName 7) gNil))) (tAugS (tVar 0) (tOp rAddI (tVar 4) (tVar 6)) (tOp rMulW (tOp rMulW (tVar 3) (tVar 5)) (tVar 7)) (rGetL K) (ipI fun i j => i + j) rSetL)))
theorem der_add_product {P : Program} {w : World} {K : PySem.W.Frag} {mg : Str → Option Value} {base : Heap} {f : Addr} (T : Gb mg) (cdv : Value) (A : Around) (outer : List Env) (s : Shared) (H : Hp) (E : XK) (hr : Room 0 (A.deeper (envOfC "add_product" (defScope s_add_product) s.heap.objs.size f cdv))) :
    PSs (cxOf CX0 P w K mg base N_add_product "add_product" (defScope s_add_product) f cdv A outer s H E).nox (defBody s_add_product) (t_add_product K) :=
  (pss_one (ps_for PassesOwn.never rfl (pi_enum (by rfl) T.enumerate_ (pa_cons (pv 1) pa_nil)) (pg_tup rfl (pgs_cons (pg_name (i := 4) sc_add_product.nd rfl (Or.inl rfl)) (pgs_cons (pg_name (i := 5) sc_add_product.nd rfl (Or.inl rfl)) pgs_nil))) (pss_one (ps_for PassesOwn.never rfl (pi_enum (by rfl) T.enumerate_ (pa_cons (pv 2) pa_nil)) (pg_tup rfl (pgs_cons (pg_name (i := 6) sc_add_product.nd rfl (Or.inl rfl)) (pgs_cons (pg_name (i := 7) sc_add_product.nd rfl (Or.inl rfl)) pgs_nil))) (pss_one (ps_augS (pv 0) (pe_op op_add (pv 4) (pv 6)) get_list (pe_op op_mulW (pe_op op_mulW (pv 3) (pv 5)) (pv 7)) ip_add set_list))))))
abbrev N_laid_in : List Str := ["one", "other", "times", "found", "at", "first", "second"]
theorem sc_laid_in : FnScope N_laid_in ["one", "other", "times"] (defScope s_laid_in) := ⟨rfl, rfl, rfl, by decide +kernel, rfl, by decide +kernel, by decide +kernel⟩
def t_laid_in (K : PySem.W.Frag) : TS := (tSeq (tAsg (tOp rRep (tLst (tCons (tC (.int 0)) tNil)) (tOp rSubI (tOp rSubI (tOp rAddI (tCB (rLen K) (tCons (tVar 0) tNil)) (tCB (rLen K) (tCons (tVar 1) tNil))) (tC (.int 1))) (tOp rMulI (tC (.int 2)) (tVar 2)))) (gName 3))
  (tSeq (tPar 5 6 (tCons (tCall (sp_laying_slopes K) [] E0 (tCons (tVar 0) (tCons (tVar 2) tNil))) (tCons (tCall (sp_laying_slopes K) [] E0 (tCons (tVar 1) (tCons (tVar 2) tNil))) tNil)))
  (tSeq (tFor (iRng1 (tCons (tOp rAddI (tVar 2) (tC (.int 1))) tNil)) (gName 4) (tDrop (tCall (sp_add_product K) [] E0 (tCons (tVar 3) (tCons (tOp (rIxL K) (tVar 5) (tVar 4)) (tCons (tOp (rIxL K) (tVar 6) (tOp rSubI (tVar 2) (tVar 4))) (tCons (tOp rMulI (tCall (sp_lots_of K) [] E0 (tCons (tVar 2) (tCons (tVar 4) tNil))) (tIf (tTest (tOp rEq (tOp rModI (tVar 4) (tC (.int 2))) (tC (.int 0)))) (tC (.int 1)) (tUn rNegI (tC (.int 1))))) tNil)))))))
  (tRet (tCB (rTupOf K) (tCons (tVar 3) tNil))))))
structure C_laid_in (P : Program) (w : World) (K : PySem.W.Frag) (mg : Str → Option Value) (base : Heap) : Prop where
  laying_slopes_ : C8.Cal P w K mg base 2 "laying_slopes" (sp_laying_slopes K) []
  lots_of_ : C8.Cal P w K mg base 1 "lots_of" (sp_lots_of K) []
  add_product_ : C8.Cal P w K mg base 1 "add_product" (sp_add_product K) []
theorem der_laid_in {P : Program} {w : World} {K : PySem.W.Frag} {mg : Str → Option Value} {base : Heap} {f : Addr} (T : Gb mg) (C : C_laid_in P w K mg base) (cdv : Value) (A : Around) (outer : List Env) (s : Shared) (H : Hp) (E : XK) (hr : Room 2 (A.deeper (envOfC "laid_in" (defScope s_laid_in) s.heap.objs.size f cdv))) :
    PSs (cxOf CX0 P w K mg base N_laid_in "laid_in" (defScope s_laid_in) f cdv A outer s H E).nox (defBody s_laid_in) (t_laid_in K) :=
  (pss_cons (ps_set (i := 3) sc_laid_in.nd rfl (.inl rfl) (pe_op op_rep (pe_lst (pa_cons pe_int pa_nil)) (pe_op op_sub (pe_op op_sub (pe_op op_add (pe_callB call_len_seq (by rfl) T.len_ (by decide +kernel) (pa_cons (pv 0) pa_nil)) (pe_callB call_len_seq (by rfl) T.len_ (by decide +kernel) (pa_cons (pv 1) pa_nil))) pe_int) (pe_op op_mul pe_int (pv 2)))))
      (pss_cons (ps_par (i := 5) (j := 6) rfl sc_laid_in.nd rfl rfl (by decide) rfl rfl (pa_cons (C8.pe_c C.laying_slopes_ hr (by decide) (by rfl) (pa_cons (pv 0) (pa_cons (pv 2) pa_nil))) (pa_cons (C8.pe_c C.laying_slopes_ hr (by decide) (by rfl) (pa_cons (pv 1) (pa_cons (pv 2) pa_nil))) pa_nil)) rfl)
      (pss_cons (ps_for PassesOwn.never rfl (pi_range1 rfl T.range_ (pa_cons (pe_op op_add (pv 2) pe_int) pa_nil)) (pg_name (i := 4) sc_laid_in.nd rfl (Or.inl rfl)) (pss_one (ps_expr (C8.pe_c C.add_product_ hr (by decide) (by rfl) (pa_cons (pv 3) (pa_cons (pe_ix ix_list (pv 5) (pv 4) (fun _ _ => rfl)) (pa_cons (pe_ix ix_list (pv 6) (pe_op op_sub (pv 2) (pv 4)) (fun _ _ => rfl)) (pa_cons (pe_op op_mul (C8.pe_c C.lots_of_ hr (by decide) (by rfl) (pa_cons (pv 2) (pa_cons (pv 4) pa_nil))) (pe_ifExp (pt_cmpR op_eq (pe_op op_mod (pv 4) pe_int) pe_int (nomark _)) pe_int (pe_un un_neg pe_int))) pa_nil))))))))
      (pss_one (ps_ret (pe_callTy call_tuple_of (by rfl) T.tuple_ (by decide +kernel) (pa_cons (pv 3) pa_nil)))))))
theorem bw_laying_slope : BindsW "laying_slope" s_laying_slope ["entries", "by_y"] := fun kV doc pm an cdv ct us h => by
  match us, h with
  | [_, _], _ => rfl
theorem bw_laying_slopes : BindsW "laying_slopes" s_laying_slopes ["entries", "times"] := fun kV doc pm an cdv ct us h => by
  match us, h with
  | [_, _], _ => rfl
theorem bw_add_product : BindsW "add_product" s_add_product ["found", "one", "other", "factor"] := fun kV doc pm an cdv ct us h => by
  match us, h with
  | [_, _, _, _], _ => rfl
theorem bw_laid_in : BindsW "laid_in" s_laid_in ["one", "other", "times"] := fun kV doc pm an cdv ct us h => by
  match us, h with
  | [_, _, _], _ => rfl
theorem dX_itY : ∀ (b : Nat) (h : List Int), dX (itY b h) = itY b (dX h)
  | 0, _ => rfl
  | b + 1, h => by rw [itY, itY, dXY_comm, dX_itY b h]
theorem dX_dXY (f : List Int) (a b : Nat) : dX (dXY f a b) = dXY f (a + 1) b := by
  rw [dXY, dXY, dX_itY]; rfl
theorem dY_dXY (f : List Int) (a b : Nat) : dY (dXY f a b) = dXY f a (b + 1) := rfl
section
variable {c : Ct} {rs : List (Option Rl)} {ms : Ms} {σ : L2.St} {H H' : Hp} {K : PySem.W.Frag} {R : Rl} {te ta tb to ti : TE}
/-- xs[i] += e, a list of ints at p -/
theorem w_augS {p : Addr} {ns : List Int} {j x : Int} {ms2 : Ms} {nx : L2.St → Hp → Prop} {rt : VK} {bk ct : L2.St → Hp → Prop} (a : At c rs ((p, (· = ns.map V.int)) :: ms2) σ H) (ho : EJ c rs ((p, (· = ns.map V.int)) :: ms2) to (IsV (.ref p))) (hi : EJ c rs ((p, (· = ns.map V.int)) :: ms2) ti (IsI j)) (h : EJ c rs ((p, (· = ns.map V.int)) :: ms2) te (IsI x))
    (h0 : 0 ≤ j) (hl : j.toNat < ns.length) (k : ∀ H', At c rs ((p, (· = (ns.set j.toNat (co ns j.toNat + x)).map V.int)) :: ms2) σ H' → nx σ H') : tAugS to ti te (rGetL K) (ipI fun i j => i + j) rSetL ⟨nx, rt, bk, ct⟩ σ H :=
  ho σ H a _ fun o H1 a1 _ p1 => hi σ H1 a1 _ fun y H2 a2 _ p2 => by
    cases (show o = .ref p from p1)
    cases (show y = .int j from p2)
    obtain ⟨xs, e1, e2⟩ := a2.me (p, (· = ns.map V.int)) List.mem_cons_self
    cases (show xs = ns.map V.int from e1)
    refine ⟨p, _, j, .int (co ns j.toNat), rfl, rfl, SqL.of e2, h0, by rw [List.getElem?_map, co_get? hl]; rfl, h σ H2 a2 _ fun v H3 a3 _ p3 => ?_⟩
    cases (show v = .int x from p3)
    obtain ⟨xs, e1, e3⟩ := a3.me (p, (· = ns.map V.int)) List.mem_cons_self
    cases (show xs = ns.map V.int from e1)
    refine ⟨_, _, rfl, rfl, p, _, j, j.toNat, rfl, rfl, e3, ixN_of h0 (by simp; omega), k _ ?_⟩
    have b := At.store (ms1 := []) (ms2 := ms2) (φ := (· = ns.map V.int)) (ψ := (· = (ns.set j.toNat (co ns j.toNat + x)).map V.int)) a3 (xs := (ns.set j.toNat (co ns j.toNat + x)).map V.int) rfl
    rw [← map_set_int] at b ⊢
    exact b
end
section
variable {P : Program} {w : World} {K : PySem.W.Frag} {mg : Str → Option Value} {base : Heap}
theorem cal_laying_slope (T : Gb mg) (D : Dfn K mg "laying_slope" s_laying_slope) : C8.Cal P w K mg base 1 "laying_slope" (sp_laying_slope K) [] :=
  calP D sc_laying_slope bw_laying_slope (by rintro Rs R ⟨f, b, rfl, _⟩; rfl) (fun f cdv A outer s H E hr => der_laying_slope T cdv A outer s H E hr) (by
    rintro Rs R ⟨f, b, rfl, h1, h2, rfl⟩ H0 σ H a Q q
    refine w_seq (w_if (b := b) a (t_b (e_var rfl)) (fun hb H1 a1 => ?_) (fun hb H1 a1 => w_next ?_))
    · subst hb
      refine w_ret a1 (R := LfI (dY f)) (e_frzI (ns := dY f) ?_) fun v H' a' p => q v H' a'.kp a'.me p
      have hlen : (f.drop 1).length = f.length - 1 := by simp
      have hI := ij_enumF (K := K) (c := ⟨H0, [], []⟩) (rs := rs0 N_laying_slope.length [LfI f, IsB true]) (ms := []) (e_frzI (el_slF (K := K) (i := 1) (e_var (i := 0) rfl) e_c h1))
      rw [hlen] at hI
      refine' el_lcI0 (f := fun i => co f (i + 1) * ((i : Int) + 1)) hI (by omega) (fun i hi c ms => ?hg) (fun i hi y D acc => ?he) rfl
      case hg => walk_at "ev"
      case he =>
        have e : co (f.drop 1) i = co f (i + 1) := by
          rw [co_lt (by omega), co_lt (by omega)]; simp [Nat.add_comm]
        rw [e]
        refine e_opI (e_var rfl) (e_opI0 (e_var rfl) e_c) (.inr ?_)
        omega
    · subst hb
      refine w_ret a1 (R := LfI (dX f)) (e_frzI (ns := dX f) ?_) fun v H' a' p => q v H' a'.kp a'.me p
      have hlen : (f.take (f.length - 1)).length = f.length - 1 := by simp
      have hI := ij_enumF (K := K) (c := ⟨H0, [], []⟩) (rs := rs0 N_laying_slope.length [LfI f, IsB false]) (ms := []) (e_frzI (el_slFHead (K := K) (e_var (i := 0) rfl) (e_neg (i := 1) e_c)))
      rw [hlen] at hI
      refine' el_lcI0 (f := fun i => co f i * ((f.length : Int) - 1 - (i : Int))) hI (by omega) (fun i hi c ms => ?hg2) (fun i hi y D acc => ?he2) rfl
      case hg2 => walk_at "ev"
      case he2 =>
        have e : co (f.take (f.length - 1)) i = co f i := by
          rw [co_lt (by omega), co_lt (by omega)]; simp
        rw [e]
        refine e_opI (e_var rfl) (e_opI0 (e_opI0 (e_lenF (e_var rfl)) e_c) (e_var rfl)) (.inr ?_)
        omega)
theorem cal_laying_slopes (T : Gb mg) (C : C_laying_slopes P w K mg base) (D : Dfn K mg "laying_slopes" s_laying_slopes) : C8.Cal P w K mg base 2 "laying_slopes" (sp_laying_slopes K) [] :=
  calP D sc_laying_slopes bw_laying_slopes (by rintro Rs R ⟨f, b, rfl, _⟩; rfl) (fun f cdv A outer s H E hr => der_laying_slopes T C cdv A outer s H E hr) (by
    rintro Rs R ⟨f, k, rfl, hk, hl, hk6, rfl⟩ H0 σ H a Q q
    let G : Nat → List Rl := fun i => (List.range (i + 1)).map fun j => LfI (dXY f (i - j) j)
    refine w_seq (w_set (R := LfR (G 0)) a (e_frz (el_lst (Rs := [LfI f]) (a_cons (e_frzI (el_listI (e_var rfl))) a_nil) (by simp))) fun σ1 H1 a1 => ?_)
    refine w_seq (w_for a1 (ij_rngN (m := k) (a_cons (e_var rfl) a_nil) rfl (by omega)) (fun i => [some (TuI K f), some (IsI (k : Int)), some (LfR (G i)), none, none]) (fun i => [some (TuI K f), some (IsI (k : Int)), some (LfR (G i)), some (IsI (i : Int)), none]) (fun _ => []) (fun c σ H b => b.wk ?_) (fun i m hm => by cases hm) (fun i hi c => g_name) (fun i hi gg nx' bk' ct' σ H b kk => ?_) fun σ H b => w_ret b (e_var rfl) fun v H' a' p => q v H' a'.kp a'.me p)
    · walk_at "wk"
    · have hGl : (G i).length = i + 1 := by simp [G]
      have gj : ∀ j, j < i + 1 → (G i)[j]? = some (LfI (dXY f (i - j) j)) := fun j hj => by simp [G, hj]
      have hL := ij_listFR (K := K) (c := Ct.add ⟨H0, [], []⟩ gg) (rs := [some (TuI K f), some (IsI (k : Int)), some (LfR (G i)), some (IsI (i : Int)), none]) (ms := []) (te := tVar 2) (e_var rfl)
      rw [hGl] at hL
      refine w_set (R := LfR (G (i + 1))) b ?_ fun σ' H' b' => kk σ' H' (b'.wk (by walk_at "wk"))
      have e : G (i + 1) = (List.range (i + 1)).map (fun j => LfI (dXY f (i + 1 - j) j)) ++ [LfI (dXY f 0 (i + 1))] := by
        show (List.range (i + 1 + 1)).map _ = _
        rw [List.range_succ, List.map_append]
        simp
      rw [e]
      refine e_frz (el_lst (a_star (e_frz (el_lc0 (vs := [4]) (F := fun j => LfI (dXY f (i + 1 - j) j)) hL (by omega) (fun j hj c ms => g_name) (fun j hj x D acc => ?_))) (a_cons ?_ a_nil)) (by simp; omega))
      · refine e_call (a_cons (e_var ?_) (a_cons e_c a_nil)) ⟨dXY f (i - j) j, false, rfl, ?_, ?_, ?_⟩
        · rw [gj j hj]; rfl
        · rw [dXY_length]; omega
        · rw [dXY_length]; omega
        · have h : i + 1 - j = i - j + 1 := by omega
          rw [if_neg (by simp), dX_dXY, h]
      · refine e_call (a_cons (e_ixLast (e_var rfl) (e_neg (i := 1) e_c) (R := LfI (dXY f 0 i)) ?_) (a_cons e_c a_nil)) ⟨dXY f 0 i, true, rfl, ?_, ?_, ?_⟩
        · rw [hGl, Nat.add_sub_cancel, gj i (by omega), Nat.sub_self]
        · rw [dXY_length]; omega
        · rw [dXY_length]; omega
        · rw [if_pos rfl, dY_dXY])
theorem cal_add_product (T : Gb mg) (D : Dfn K mg "add_product" s_add_product) : C8.Cal P w K mg base 1 "add_product" (sp_add_product K) [] :=
  calM D sc_add_product bw_add_product (by rintro Rs x y ⟨f, g, c, rfl, _⟩; rfl) (fun f cdv A outer s H E hr => der_add_product T cdv A outer s H E hr) (by
    rintro Rs l r p ⟨f, g, c, rfl, hf1, hg1, hfg, hll, hf, hg, hc, rfl⟩ H0 σ H a Q q
    have hL : ∀ i, (ouN (fun i => c * co f i) g l i).length = f.length + g.length - 1 := fun i => by rw [ouN_length, hll]
    refine w_for a (ij_enumF (e_var rfl)) (fun i => [some (IsV (.ref p)), some (LfI f), some (LfI g), some (IsI c), none, none, none, none]) (fun i => [some (IsV (.ref p)), some (LfI f), some (LfI g), some (IsI c), some (IsI (i : Int)), some (IsI (co f i)), none, none]) (fun i => [(p, (· = (ouN (fun i => c * co f i) g l i).map V.int))]) (fun c σ H b => b.wk ?_) (fun i m hm => by cases hm) (fun i hi c => g_pair) (fun i hi gg nx' bk' ct' σ H b k => ?_) fun σ H b => ?_
    · walk_at "wk"
    · refine w_for b (ij_enumF (e_var rfl)) (fun j => [some (IsV (.ref p)), some (LfI f), some (LfI g), some (IsI c), some (IsI (i : Int)), some (IsI (co f i)), none, none]) (fun j => [some (IsV (.ref p)), some (LfI f), some (LfI g), some (IsI c), some (IsI (i : Int)), some (IsI (co f i)), some (IsI (j : Int)), some (IsI (co g j))]) (fun j => [(p, (· = (inN (c * co f i) g i (ouN (fun i => c * co f i) g l i) j).map V.int))]) (fun c σ H b => b.wk ?_) (fun i m hm => by cases hm) (fun i hi c => g_pair) (fun j hj gg nx' bk' ct' σ H b k => ?_) fun σ H b => k σ H (b.wk ?_)
      · walk_at "wk"
      · have hlen := inN_length (c * co f i) g i (ouN (fun i => c * co f i) g l i) j
        have hLi := hL i
        have hcf := mul_lt_bits hc (hf i)
        refine w_augS (j := (i : Int) + (j : Int)) (x := c * co f i * co g j) b (e_var rfl) (e_opI0 (e_var rfl) (e_var rfl)) (e_opI (e_opI (e_var rfl) (e_var rfl) (cmulw hc (hf i) (by omega))) (e_var rfl) (cmulw hcf (hg j) (by omega))) ?_ ?_ fun H' b' => k σ H' ?_
        · omega
        · omega
        · have e : ((i : Int) + (j : Int)).toNat = i + j := by omega
          rw [e] at b'
          exact b'.wk (by walk_at "wk")
      · walk_at "wk"
    · rw [ouN_add c hf1 hg1 hll] at b
      exact q _ _ _ _ b)
theorem cal_laid_in (T : Gb mg) (C : C_laid_in P w K mg base) (D : Dfn K mg "laid_in" s_laid_in) : C8.Cal P w K mg base 3 "laid_in" (sp_laid_in K) [] :=
  calP D sc_laid_in bw_laid_in (by rintro Rs R ⟨x, a, b, rfl, _⟩; rfl) (fun f cdv A outer s H E hr => der_laid_in T C cdv A outer s H E hr) (by
    rintro Rs R ⟨f, g, k, rfl, hf, hg, hk, hfl, hgl, bf, bg, rfl⟩ H0 σ H a Q q
    have hN := fun i (hi : i ≤ k + 1) => laidN_length hf hg hi
    have hz : List.replicate ((f.length : Int) + (g.length : Int) - 1 - 2 * (k : Int)).toNat 0 = laidN k f g 0 := by
      show _ = List.replicate _ 0
      congr 1
      omega
    refine w_seq (w_setL (ns := laidN k f g 0) a (by
      rw [← hz]
      exact el_rep (el_lst (a_cons e_c a_nil) (by simp)) (e_opI0 (e_opI0 (e_opI0 (e_lenI (e_var rfl)) (e_lenI (e_var rfl))) e_c) (e_opI e_c (e_var rfl) (.inl (by decide)))) (by omega) (by omega)) fun p σ1 H1 a1 => ?_)
    let G : List Int → List Rl := fun f => (List.range (k + 1)).map fun i => LfI (dXY f (k - i) i)
    refine w_seq (w_par a1 (R := LfR (G f)) (S := LfR (G g)) (a_cons (e_call (a_cons (e_var rfl) (a_cons (e_var rfl) a_nil)) ⟨f, k, rfl, hf, hfl, hk, rfl⟩) (a_cons (e_call (a_cons (e_var rfl) (a_cons (e_var rfl) a_nil)) ⟨g, k, rfl, hg, hgl, hk, rfl⟩) a_nil)) fun σ2 H2 a2 => ?_)
    refine w_seq (w_for a2 (ij_rngN (n := (k : Int) + 1) (m := k + 1) (a_cons (e_opI0 (e_var rfl) e_c) a_nil) (by omega) (by omega)) (fun i => [some (TuI K f), some (TuI K g), some (IsI (k : Int)), some (IsV (.ref p)), none, some (LfR (G f)), some (LfR (G g))]) (fun i => [some (TuI K f), some (TuI K g), some (IsI (k : Int)), some (IsV (.ref p)), some (IsI (i : Int)), some (LfR (G f)), some (LfR (G g))]) (fun i => [(p, (· = (laidN k f g i).map V.int))]) (fun c σ H b => b.wk ?_) (fun i m hm => by cases hm) (fun i hi c => g_name) (fun i hi gg nx' bk' ct' σ H b kk => ?_) fun σ H b => w_ret b (e_tupX List.mem_cons_self (e_var rfl)) fun v H' a' p => q v H' a'.kp (fun m hm => by cases hm) p)
    · walk_at "wk"
    · have hik : i ≤ k := by omega
      have e1 : ((k : Int) - (i : Int)).toNat = k - i := by omega
      have gf : ∀ (h : List Int) j, j ≤ k → (G h)[j]? = some (LfI (dXY h (k - j) j)) := fun h j hj => by
        have : j < k + 1 := by omega
        simp [G, this]
      have e2 : k - (k - i) = i := by omega
      refine w_callM (Rs := [LfI (dXY f (k - i) i), LfI (dXY g i (k - i)), IsI (sg k i)]) b (a_cons (e_var rfl) (a_cons (e_ixFR (e_var rfl) (e_var rfl) (by omega) (by rw [Int.toNat_natCast]; exact gf f i hik)) (a_cons (e_ixFR (e_var rfl) (e_opI0 (e_var rfl) (e_var rfl)) (by omega) (by rw [e1]; have := gf g (k - i) (by omega); rw [e2] at this; exact this)) (a_cons (R := IsI (sg k i)) ?_ a_nil)))) ⟨dXY f (k - i) i, dXY g i (k - i), sg k i, rfl, ?_, ?_, ?_, ?_, ?_, ?_, ?_, rfl⟩ fun H' b' => kk σ H' (b'.wk (by walk_at "wk"))
      · have hl := lots_facts k hk i hik
        have hm : IsI (sg k i) = IsI (lots k i * (if decide ((i : Int) % 2 = 0) = true then 1 else -1)) := by
          congr 2
          unfold sg
          by_cases e : i % 2 = 0
          · rw [if_pos e, if_pos (decide_eq_true (by omega))]; omega
          · rw [if_neg e, if_neg (by rw [decide_eq_true_eq]; omega)]; omega
        rw [hm]
        refine e_opI (e_call (a_cons (e_var rfl) (a_cons (e_var rfl) a_nil)) ⟨k, i, rfl, hik, hk, rfl⟩) (e_ifI (t_test (e_eqI (e_opI (e_var rfl) e_c (by decide)) e_c)) e_c (e_neg e_c)) (.inl ?_)
        omega
      · rw [dXY_length]; omega
      · rw [dXY_length]; omega
      · rw [dXY_length, dXY_length]; omega
      · rw [hN i (by omega), dXY_length, dXY_length]; omega
      · exact (bd_dXY bf (by omega) _ _).mono (by omega)
      · exact (bd_dXY bg (by omega) _ _).mono (by omega)
      · exact Nat.lt_of_lt_of_le (lots_lt hk hik) (Nat.pow_le_pow_right (by decide) (by decide)))
end
end K45
namespace K45
open PySem PySem.Spec PyProof.Rows L2
local macro_rules | `(tactic| walk_at "ev") => `(tactic| repeat' first
  | exact e_var rfl | exact e_c | exact a_nil | refine a_cons ?_ ?_
  | refine e_opI0 ?_ ?_ | refine e_opI ?_ ?_ ?_ | refine e_eqI ?_ ?_ | refine e_neI ?_ ?_ | refine e_neg ?_
  | refine e_lenI ?_ | refine e_lenR ?_ | refine e_abs ?_ | refine e_max ?_ ?_ | refine e_min ?_ ?_ | refine e_intB ?_ | refine e_intI ?_
  | refine e_chain ?_ ?_ ?_ | refine e_ixI ?_ ?_ ?_ ?_ | refine e_ixR ?_ ?_ ?_ ?_
  | refine e_slHead ?_ ?_ ?_ | refine e_slTail ?_ ?_ ?_
  | refine t_test ?_ | refine t_b ?_ | refine e_ifI ?_ ?_ ?_
  | refine ij_zipT ?_ ?_ | refine ij_tupI ?_ | refine ij_rng ?_ ?_
  | exact g_name | exact g_pair)
local macro_rules | `(tactic| walk_at "evn") => `(tactic| repeat' first
  | exact e_var rfl | exact EJ.any e_c | exact EJ.any (e_var rfl) | exact EJ.anyN (e_var rfl) | refine e_diceC (d := ‹Addr›) List.mem_cons_self ?_ (by decide) | refine e_mulL (φ := fun _ => True) (by decide) ?_ | refine e_mulR (φ := fun _ => True) (by decide) ?_ | exact e_c
  | refine e_a0 ?_ ?_ | refine e_intN ?_)
local macro_rules | `(tactic| walk_at "wk") => `(tactic| repeat' first | exact wk_nil | refine wk_none ?_ | refine wk_some (fun _ _ h => h) ?_)
abbrev N_laid : List Str := ["one", "other", "times"]
theorem sc_laid : FnScope N_laid ["one", "other", "times"] (defScope s_laid) := ⟨rfl, rfl, rfl, by decide +kernel, rfl, by decide +kernel, by decide +kernel⟩
def t_laid (K : PySem.W.Frag) : TS := (tSeq (tDrop (tCall (sp_require_form K) [] E0 (tCons (tVar 0) tNil)))
  (tSeq (tDrop (tCall (sp_require_form K) [] E0 (tCons (tVar 1) tNil)))
  (tSeq (tIfS (tNot (tB (tCall (sp_is_from K) [] E0 (tCons (tVar 2) (tCons (tC (.int 0)) (tCons (tCB rMin2 (tCons (SlX.tPropSl 511 (sp_Form_degree K) E0 (tVar 0)) (tCons (SlX.tPropSl 511 (sp_Form_degree K) E0 (tVar 1)) tNil))) tNil)))))) tNever tNext)
  (tSeq (tIfS (tTest (tOp rGtB (tOp rSubI (tOp rAddI (SlX.tPropSl 511 (sp_Form_degree K) E0 (tVar 0)) (SlX.tPropSl 511 (sp_Form_degree K) E0 (tVar 1))) (tOp rMulI (tC (.int 2)) (tVar 2))) (tC (.int 40)))) tNever tNext)
  (tRet (tCall (sp_form_of K) [] E0 (tCons (tCall (sp_laid_in K) [] E0 (tCons (SlX.tPropSl 511 (sp_Form_entries K) E0 (tVar 0)) (tCons (SlX.tPropSl 511 (sp_Form_entries K) E0 (tVar 1)) (tCons (tVar 2) tNil)))) tNil)))))))
structure C_laid (P : Program) (w : World) (K : PySem.W.Frag) (mg : Str → Option Value) (base : Heap) : Prop where
  require_form_ : C8.Cal P w K mg base 1 "require_form" (sp_require_form K) []
  is_from_ : C8.Cal P w K mg base 2 "is_from" (sp_is_from K) []
  laid_in_ : C8.Cal P w K mg base 3 "laid_in" (sp_laid_in K) []
  form_of_ : C8.Cal P w K mg base 7 "form_of" (sp_form_of K) []
  degree_ : Prp P w K mg base 1 "degree" (sp_Form_degree K)
  entries_ : Prp P w K mg base 1 "entries" (sp_Form_entries K)
theorem der_laid {P : Program} {w : World} {K : PySem.W.Frag} {mg : Str → Option Value} {base : Heap} {f : Addr} (T : Gb mg) (C : C_laid P w K mg base) (cdv : Value) (A : Around) (outer : List Env) (s : Shared) (H : Hp) (E : XK) (hr : Room 7 (A.deeper (envOfC "laid" (defScope s_laid) s.heap.objs.size f cdv))) :
    PSs (cxOf CX0 P w K mg base N_laid "laid" (defScope s_laid) f cdv A outer s H E).nox (defBody s_laid) (t_laid K) :=
  (pss_cons (ps_expr (C8.pe_c C.require_form_ hr (by decide) (by rfl) (pa_cons (pv 0) pa_nil)))
      (pss_cons (ps_expr (C8.pe_c C.require_form_ hr (by decide) (by rfl) (pa_cons (pv 1) pa_nil)))
      (pss_cons (ps_if (pt_not (pt_val (C8.pe_c C.is_from_ hr (by decide) (by rfl) (pa_cons (pv 2) (pa_cons pe_int (pa_cons (pe_callB (call_min2 rfl) (by rfl) T.min_ (by decide +kernel) (pa_cons (pe_prp C.degree_ hr (by decide) (pv 0)) (pa_cons (pe_prp C.degree_ hr (by decide) (pv 1)) pa_nil))) pa_nil)))))) (pss_one ps_never) pss_nil)
      (pss_cons (ps_if (pt_cmpR op_gt (pe_op op_sub (pe_op op_add (pe_prp C.degree_ hr (by decide) (pv 0)) (pe_prp C.degree_ hr (by decide) (pv 1))) (pe_op op_mul pe_int (pv 2))) (C8.pe_gc (by rfl) T.MOST_LAID_) (nomark _)) (pss_one ps_never) pss_nil)
      (pss_one (ps_ret (C8.pe_c C.form_of_ hr (by decide) (by rfl) (pa_cons (C8.pe_c C.laid_in_ hr (by decide) (by rfl) (pa_cons (pe_prp C.entries_ hr (by decide) (pv 0)) (pa_cons (pe_prp C.entries_ hr (by decide) (pv 1)) (pa_cons (pv 2) pa_nil)))) pa_nil))))))))
abbrev N_require_told : List Str := ["form"]
theorem sc_require_told : FnScope N_require_told ["form"] (defScope s_require_told) := ⟨rfl, rfl, rfl, by decide +kernel, rfl, by decide +kernel, by decide +kernel⟩
def t_require_told (K : PySem.W.Frag) : TS := (tSeq (tDrop (tCall (sp_require_form K) [] E0 (tCons (tVar 0) tNil)))
  (tIfS (tNot (tTest (tChain rLeB rLeB (tC (.int 1)) (SlX.tPropSl 511 (sp_Form_degree K) E0 (tVar 0)) (tC (.int 6))))) tNever tNext))
structure C_require_told (P : Program) (w : World) (K : PySem.W.Frag) (mg : Str → Option Value) (base : Heap) : Prop where
  require_form_ : C8.Cal P w K mg base 1 "require_form" (sp_require_form K) []
  degree_ : Prp P w K mg base 1 "degree" (sp_Form_degree K)
theorem der_require_told {P : Program} {w : World} {K : PySem.W.Frag} {mg : Str → Option Value} {base : Heap} {f : Addr} (T : Gb mg) (C : C_require_told P w K mg base) (cdv : Value) (A : Around) (outer : List Env) (s : Shared) (H : Hp) (E : XK) (hr : Room 2 (A.deeper (envOfC "require_told" (defScope s_require_told) s.heap.objs.size f cdv))) :
    PSs (cxOf CX0 P w K mg base N_require_told "require_told" (defScope s_require_told) f cdv A outer s H E).nox (defBody s_require_told) (t_require_told K) :=
  (pss_cons (ps_expr (C8.pe_c C.require_form_ hr (by decide) (by rfl) (pa_cons (pv 0) pa_nil)))
      (pss_one (ps_if (pt_not (pt_chain op_le op_le pe_int (pe_prp C.degree_ hr (by decide) (pv 0)) (C8.pe_gc (by rfl) T.MAX_TOLD_))) (pss_one ps_never) pss_nil)))
abbrev N_last_entry : List Str := ["one", "other", "times"]
theorem sc_last_entry : FnScope N_last_entry ["one", "other", "times"] (defScope s_last_entry) := ⟨rfl, rfl, rfl, by decide +kernel, rfl, by decide +kernel, by decide +kernel⟩
def t_last_entry (K : PySem.W.Frag) : TS := (tRet (tOp (rIxT K) (SlX.tPropSl 511 (sp_Form_entries K) E0 (tCall (sp_laid K) [] E0 (tCons (tVar 0) (tCons (tVar 1) (tCons (tVar 2) tNil))))) (tC (.int 0))))
structure C_last_entry (P : Program) (w : World) (K : PySem.W.Frag) (mg : Str → Option Value) (base : Heap) : Prop where
  laid_ : C8.Cal P w K mg base 8 "laid" (sp_laid K) []
  entries_ : Prp P w K mg base 1 "entries" (sp_Form_entries K)
theorem der_last_entry {P : Program} {w : World} {K : PySem.W.Frag} {mg : Str → Option Value} {base : Heap} {f : Addr} (T : Gb mg) (C : C_last_entry P w K mg base) (cdv : Value) (A : Around) (outer : List Env) (s : Shared) (H : Hp) (E : XK) (hr : Room 8 (A.deeper (envOfC "last_entry" (defScope s_last_entry) s.heap.objs.size f cdv))) :
    PSs (cxOf CX0 P w K mg base N_last_entry "last_entry" (defScope s_last_entry) f cdv A outer s H E).nox (defBody s_last_entry) (t_last_entry K) :=
  (pss_one (ps_ret (pe_ix ix_tup (pe_prp C.entries_ hr (by decide) (C8.pe_c C.laid_ hr (by decide) (by rfl) (pa_cons (pv 0) (pa_cons (pv 1) (pa_cons (pv 2) pa_nil))))) pe_int (fun _ _ => rfl))))
abbrev N_told_of_five : List Str := ["form", "first", "third", "second"]
theorem sc_told_of_five : FnScope N_told_of_five ["form"] (defScope s_told_of_five) := ⟨rfl, rfl, rfl, by decide +kernel, rfl, by decide +kernel, by decide +kernel⟩
def t_told_of_five (K : PySem.W.Frag) : TS := (tSeq (tAsg (tCall (sp_laid K) [] E0 (tCons (tVar 0) (tCons (tVar 0) (tCons (tC (.int 4)) tNil)))) (gName 1))
  (tSeq (tAsg (tCall (sp_laid K) [] E0 (tCons (tVar 0) (tCons (tVar 1) (tCons (tC (.int 2)) tNil)))) (gName 2))
  (tSeq (tAsg (tCall (sp_laid K) [] E0 (tCons (tVar 2) (tCons (tVar 2) (tCons (tC (.int 2)) tNil)))) (gName 3))
  (tRet (tTup (tCons (tCall (sp_last_entry K) [] E0 (tCons (tVar 1) (tCons (tVar 1) (tCons (tC (.int 2)) tNil)))) (tCons (tCall (sp_last_entry K) [] E0 (tCons (tVar 1) (tCons (tVar 3) (tCons (tC (.int 2)) tNil)))) (tCons (tCall (sp_last_entry K) [] E0 (tCons (tVar 3) (tCons (tVar 3) (tCons (tC (.int 2)) tNil)))) tNil))))))))
structure C_told_of_five (P : Program) (w : World) (K : PySem.W.Frag) (mg : Str → Option Value) (base : Heap) : Prop where
  laid_ : C8.Cal P w K mg base 8 "laid" (sp_laid K) []
  last_entry_ : C8.Cal P w K mg base 9 "last_entry" (sp_last_entry K) []
theorem der_told_of_five {P : Program} {w : World} {K : PySem.W.Frag} {mg : Str → Option Value} {base : Heap} {f : Addr} (T : Gb mg) (C : C_told_of_five P w K mg base) (cdv : Value) (A : Around) (outer : List Env) (s : Shared) (H : Hp) (E : XK) (hr : Room 9 (A.deeper (envOfC "told_of_five" (defScope s_told_of_five) s.heap.objs.size f cdv))) :
    PSs (cxOf CX0 P w K mg base N_told_of_five "told_of_five" (defScope s_told_of_five) f cdv A outer s H E).nox (defBody s_told_of_five) (t_told_of_five K) :=
  (pss_cons (ps_set (i := 1) sc_told_of_five.nd rfl (.inl rfl) (C8.pe_c C.laid_ hr (by decide) (by rfl) (pa_cons (pv 0) (pa_cons (pv 0) (pa_cons pe_int pa_nil)))))
      (pss_cons (ps_set (i := 2) sc_told_of_five.nd rfl (.inl rfl) (C8.pe_c C.laid_ hr (by decide) (by rfl) (pa_cons (pv 0) (pa_cons (pv 1) (pa_cons pe_int pa_nil)))))
      (pss_cons (ps_set (i := 3) sc_told_of_five.nd rfl (.inl rfl) (C8.pe_c C.laid_ hr (by decide) (by rfl) (pa_cons (pv 2) (pa_cons (pv 2) (pa_cons pe_int pa_nil)))))
      (pss_one (ps_ret (pe_tup (pa_cons (C8.pe_c C.last_entry_ hr (by decide) (by rfl) (pa_cons (pv 1) (pa_cons (pv 1) (pa_cons pe_int pa_nil)))) (pa_cons (C8.pe_c C.last_entry_ hr (by decide) (by rfl) (pa_cons (pv 1) (pa_cons (pv 3) (pa_cons pe_int pa_nil)))) (pa_cons (C8.pe_c C.last_entry_ hr (by decide) (by rfl) (pa_cons (pv 3) (pa_cons (pv 3) (pa_cons pe_int pa_nil)))) pa_nil)))))))))
abbrev N_told_of_six : List Str := ["form", "four", "two", "more", "less"]
theorem sc_told_of_six : FnScope N_told_of_six ["form"] (defScope s_told_of_six) := ⟨rfl, rfl, rfl, by decide +kernel, rfl, by decide +kernel, by decide +kernel⟩
def t_told_of_six (K : PySem.W.Frag) : TS := (tSeq (tAsg (tCall (sp_laid K) [] E0 (tCons (tVar 0) (tCons (tVar 0) (tCons (tC (.int 4)) tNil)))) (gName 1))
  (tSeq (tAsg (tCall (sp_laid K) [] E0 (tCons (tVar 0) (tCons (tVar 1) (tCons (tC (.int 4)) tNil)))) (gName 2))
  (tSeq (tPar 3 4 (tCons (tCall (sp_laid K) [] E0 (tCons (tVar 1) (tCons (tVar 1) (tCons (tC (.int 2)) tNil)))) (tCons (tCall (sp_laid K) [] E0 (tCons (tVar 1) (tCons (tCall (sp_laid K) [] E0 (tCons (tVar 1) (tCons (tVar 2) (tCons (tC (.int 2)) tNil)))) (tCons (tC (.int 2)) tNil)))) tNil)))
  (tRet (tTup (tCons (tCall (sp_last_entry K) [] E0 (tCons (tVar 0) (tCons (tVar 0) (tCons (tC (.int 6)) tNil)))) (tCons (tCall (sp_last_entry K) [] E0 (tCons (tVar 1) (tCons (tVar 1) (tCons (tC (.int 4)) tNil)))) (tCons (tCall (sp_last_entry K) [] E0 (tCons (tVar 1) (tCons (tVar 3) (tCons (tC (.int 4)) tNil)))) (tCons (tCall (sp_last_entry K) [] E0 (tCons (tVar 4) (tCons (tVar 2) (tCons (tC (.int 2)) tNil)))) tNil)))))))))
structure C_told_of_six (P : Program) (w : World) (K : PySem.W.Frag) (mg : Str → Option Value) (base : Heap) : Prop where
  laid_ : C8.Cal P w K mg base 8 "laid" (sp_laid K) []
  last_entry_ : C8.Cal P w K mg base 9 "last_entry" (sp_last_entry K) []
theorem der_told_of_six {P : Program} {w : World} {K : PySem.W.Frag} {mg : Str → Option Value} {base : Heap} {f : Addr} (T : Gb mg) (C : C_told_of_six P w K mg base) (cdv : Value) (A : Around) (outer : List Env) (s : Shared) (H : Hp) (E : XK) (hr : Room 9 (A.deeper (envOfC "told_of_six" (defScope s_told_of_six) s.heap.objs.size f cdv))) :
    PSs (cxOf CX0 P w K mg base N_told_of_six "told_of_six" (defScope s_told_of_six) f cdv A outer s H E).nox (defBody s_told_of_six) (t_told_of_six K) :=
  (pss_cons (ps_set (i := 1) sc_told_of_six.nd rfl (.inl rfl) (C8.pe_c C.laid_ hr (by decide) (by rfl) (pa_cons (pv 0) (pa_cons (pv 0) (pa_cons pe_int pa_nil)))))
      (pss_cons (ps_set (i := 2) sc_told_of_six.nd rfl (.inl rfl) (C8.pe_c C.laid_ hr (by decide) (by rfl) (pa_cons (pv 0) (pa_cons (pv 1) (pa_cons pe_int pa_nil)))))
      (pss_cons (ps_par (i := 3) (j := 4) rfl sc_told_of_six.nd rfl rfl (by decide) rfl rfl (pa_cons (C8.pe_c C.laid_ hr (by decide) (by rfl) (pa_cons (pv 1) (pa_cons (pv 1) (pa_cons pe_int pa_nil)))) (pa_cons (C8.pe_c C.laid_ hr (by decide) (by rfl) (pa_cons (pv 1) (pa_cons (C8.pe_c C.laid_ hr (by decide) (by rfl) (pa_cons (pv 1) (pa_cons (pv 2) (pa_cons pe_int pa_nil)))) (pa_cons pe_int pa_nil)))) pa_nil)) rfl)
      (pss_one (ps_ret (pe_tup (pa_cons (C8.pe_c C.last_entry_ hr (by decide) (by rfl) (pa_cons (pv 0) (pa_cons (pv 0) (pa_cons pe_int pa_nil)))) (pa_cons (C8.pe_c C.last_entry_ hr (by decide) (by rfl) (pa_cons (pv 1) (pa_cons (pv 1) (pa_cons pe_int pa_nil)))) (pa_cons (C8.pe_c C.last_entry_ hr (by decide) (by rfl) (pa_cons (pv 1) (pa_cons (pv 3) (pa_cons pe_int pa_nil)))) (pa_cons (C8.pe_c C.last_entry_ hr (by decide) (by rfl) (pa_cons (pv 4) (pa_cons (pv 2) (pa_cons pe_int pa_nil)))) pa_nil))))))))))
abbrev N_told_in : List Str := ["form", "hesse"]
theorem sc_told_in : FnScope N_told_in ["form"] (defScope s_told_in) := ⟨rfl, rfl, rfl, by decide +kernel, rfl, by decide +kernel, by decide +kernel⟩
def t_told_in (K : PySem.W.Frag) : TS := (tSeq (tIfS (tTest (tOp rEq (SlX.tPropSl 511 (sp_Form_degree K) E0 (tVar 0)) (tC (.int 1)))) (tRet (tTup tNil)) tNext)
  (tSeq (tIfS (tTest (tOp rEq (SlX.tPropSl 511 (sp_Form_degree K) E0 (tVar 0)) (tC (.int 2)))) (tRet (tTup (tCons (tCall (sp_last_entry K) [] E0 (tCons (tVar 0) (tCons (tVar 0) (tCons (tC (.int 2)) tNil)))) tNil))) tNext)
  (tSeq (tIfS (tTest (tOp rEq (SlX.tPropSl 511 (sp_Form_degree K) E0 (tVar 0)) (tC (.int 5)))) (tRet (tCall (sp_told_of_five K) [] E0 (tCons (tVar 0) tNil))) tNext)
  (tSeq (tIfS (tTest (tOp rEq (SlX.tPropSl 511 (sp_Form_degree K) E0 (tVar 0)) (tC (.int 6)))) (tRet (tCall (sp_told_of_six K) [] E0 (tCons (tVar 0) tNil))) tNext)
  (tSeq (tAsg (tCall (sp_laid K) [] E0 (tCons (tVar 0) (tCons (tVar 0) (tCons (tC (.int 2)) tNil)))) (gName 1))
  (tSeq (tIfS (tTest (tOp rEq (SlX.tPropSl 511 (sp_Form_degree K) E0 (tVar 0)) (tC (.int 3)))) (tRet (tTup (tCons (tCall (sp_last_entry K) [] E0 (tCons (tVar 1) (tCons (tVar 1) (tCons (tC (.int 2)) tNil)))) tNil))) tNext)
  (tRet (tTup (tCons (tCall (sp_last_entry K) [] E0 (tCons (tVar 0) (tCons (tVar 0) (tCons (tC (.int 4)) tNil)))) (tCons (tCall (sp_last_entry K) [] E0 (tCons (tVar 0) (tCons (tVar 1) (tCons (tC (.int 4)) tNil)))) tNil))))))))))
structure C_told_in (P : Program) (w : World) (K : PySem.W.Frag) (mg : Str → Option Value) (base : Heap) : Prop where
  last_entry_ : C8.Cal P w K mg base 9 "last_entry" (sp_last_entry K) []
  told_of_five_ : C8.Cal P w K mg base 10 "told_of_five" (sp_told_of_five K) []
  told_of_six_ : C8.Cal P w K mg base 10 "told_of_six" (sp_told_of_six K) []
  laid_ : C8.Cal P w K mg base 8 "laid" (sp_laid K) []
  degree_ : Prp P w K mg base 1 "degree" (sp_Form_degree K)
theorem der_told_in {P : Program} {w : World} {K : PySem.W.Frag} {mg : Str → Option Value} {base : Heap} {f : Addr} (T : Gb mg) (C : C_told_in P w K mg base) (cdv : Value) (A : Around) (outer : List Env) (s : Shared) (H : Hp) (E : XK) (hr : Room 10 (A.deeper (envOfC "told_in" (defScope s_told_in) s.heap.objs.size f cdv))) :
    PSs (cxOf CX0 P w K mg base N_told_in "told_in" (defScope s_told_in) f cdv A outer s H E).nox (defBody s_told_in) (t_told_in K) :=
  (pss_cons (ps_if (pt_cmpR op_eq (pe_prp C.degree_ hr (by decide) (pv 0)) pe_int (nomark _)) (pss_one (ps_ret (pe_tup pa_nil))) pss_nil)
      (pss_cons (ps_if (pt_cmpR op_eq (pe_prp C.degree_ hr (by decide) (pv 0)) pe_int (nomark _)) (pss_one (ps_ret (pe_tup (pa_cons (C8.pe_c C.last_entry_ hr (by decide) (by rfl) (pa_cons (pv 0) (pa_cons (pv 0) (pa_cons pe_int pa_nil)))) pa_nil)))) pss_nil)
      (pss_cons (ps_if (pt_cmpR op_eq (pe_prp C.degree_ hr (by decide) (pv 0)) pe_int (nomark _)) (pss_one (ps_ret (C8.pe_c C.told_of_five_ hr (by decide) (by rfl) (pa_cons (pv 0) pa_nil)))) pss_nil)
      (pss_cons (ps_if (pt_cmpR op_eq (pe_prp C.degree_ hr (by decide) (pv 0)) pe_int (nomark _)) (pss_one (ps_ret (C8.pe_c C.told_of_six_ hr (by decide) (by rfl) (pa_cons (pv 0) pa_nil)))) pss_nil)
      (pss_cons (ps_set (i := 1) sc_told_in.nd rfl (.inl rfl) (C8.pe_c C.laid_ hr (by decide) (by rfl) (pa_cons (pv 0) (pa_cons (pv 0) (pa_cons pe_int pa_nil)))))
      (pss_cons (ps_if (pt_cmpR op_eq (pe_prp C.degree_ hr (by decide) (pv 0)) pe_int (nomark _)) (pss_one (ps_ret (pe_tup (pa_cons (C8.pe_c C.last_entry_ hr (by decide) (by rfl) (pa_cons (pv 1) (pa_cons (pv 1) (pa_cons pe_int pa_nil)))) pa_nil)))) pss_nil)
      (pss_one (ps_ret (pe_tup (pa_cons (C8.pe_c C.last_entry_ hr (by decide) (by rfl) (pa_cons (pv 0) (pa_cons (pv 0) (pa_cons pe_int pa_nil)))) (pa_cons (C8.pe_c C.last_entry_ hr (by decide) (by rfl) (pa_cons (pv 0) (pa_cons (pv 1) (pa_cons pe_int pa_nil)))) pa_nil)))))))))))
abbrev N_told_invariants : List Str := ["form"]
theorem sc_told_invariants : FnScope N_told_invariants ["form"] (defScope s_told_invariants) := ⟨rfl, rfl, rfl, by decide +kernel, rfl, by decide +kernel, by decide +kernel⟩
def t_told_invariants (K : PySem.W.Frag) : TS := (tSeq (tDrop (tCall (sp_require_told K) [] E0 (tCons (tVar 0) tNil)))
  (tRet (tCall (sp_told_in K) [] E0 (tCons (tVar 0) tNil))))
structure C_told_invariants (P : Program) (w : World) (K : PySem.W.Frag) (mg : Str → Option Value) (base : Heap) : Prop where
  require_told_ : C8.Cal P w K mg base 3 "require_told" (sp_require_told K) []
  told_in_ : C8.Cal P w K mg base 11 "told_in" (sp_told_in K) []
theorem der_told_invariants {P : Program} {w : World} {K : PySem.W.Frag} {mg : Str → Option Value} {base : Heap} {f : Addr} (T : Gb mg) (C : C_told_invariants P w K mg base) (cdv : Value) (A : Around) (outer : List Env) (s : Shared) (H : Hp) (E : XK) (hr : Room 11 (A.deeper (envOfC "told_invariants" (defScope s_told_invariants) s.heap.objs.size f cdv))) :
    PSs (cxOf CX0 P w K mg base N_told_invariants "told_invariants" (defScope s_told_invariants) f cdv A outer s H E).nox (defBody s_told_invariants) (t_told_invariants K) :=
  (pss_cons (ps_expr (C8.pe_c C.require_told_ hr (by decide) (by rfl) (pa_cons (pv 0) pa_nil)))
      (pss_one (ps_ret (C8.pe_c C.told_in_ hr (by decide) (by rfl) (pa_cons (pv 0) pa_nil)))))
theorem bw_laid : BindsW "laid" s_laid ["one", "other", "times"] := fun kV doc pm an cdv ct us h => by
  match us, h with
  | [_, _, _], _ => rfl
theorem bw_require_told : BindsW "require_told" s_require_told ["form"] := fun kV doc pm an cdv ct us h => by
  match us, h with
  | [_], _ => rfl
theorem bw_last_entry : BindsW "last_entry" s_last_entry ["one", "other", "times"] := fun kV doc pm an cdv ct us h => by
  match us, h with
  | [_, _, _], _ => rfl
theorem bw_told_of_five : BindsW "told_of_five" s_told_of_five ["form"] := fun kV doc pm an cdv ct us h => by
  match us, h with
  | [_], _ => rfl
theorem bw_told_of_six : BindsW "told_of_six" s_told_of_six ["form"] := fun kV doc pm an cdv ct us h => by
  match us, h with
  | [_], _ => rfl
theorem bw_told_in : BindsW "told_in" s_told_in ["form"] := fun kV doc pm an cdv ct us h => by
  match us, h with
  | [_], _ => rfl
theorem bw_told_invariants : BindsW "told_invariants" s_told_invariants ["form"] := fun kV doc pm an cdv ct us h => by
  match us, h with
  | [_], _ => rfl
section
variable {P : Program} {w : World} {K : PySem.W.Frag} {mg : Str → Option Value} {base : Heap}
theorem cal_laid (T : Gb mg) (C : C_laid P w K mg base) (D : Dfn K mg "laid" s_laid) : C8.Cal P w K mg base 8 "laid" (sp_laid K) [] :=
  calP D sc_laid bw_laid (by rintro Rs R ⟨x, a, b, rfl, _⟩; rfl) (fun f cdv A outer s H E hr => der_laid T C cdv A outer s H E hr) (by
    rintro Rs R ⟨f, g, k, rfl, hf, hg, hk, hfl, hgl, bf, bg, rfl⟩ H0 σ H a Q q
    refine w_seq (w_drop a (e_call (a_cons (e_var rfl) a_nil) ⟨f, rfl, rfl⟩) fun H1 a1 => w_seq (w_drop a1 (e_call (a_cons (e_var rfl) a_nil) ⟨g, rfl, rfl⟩) fun H2 a2 => ?_))
    refine w_seq (w_if (b := false) a2 (t_not (a := true) (t_b (e_call (a_cons (e_var rfl) (a_cons e_c (a_cons (e_min (e_prop (e_var rfl) ⟨f, rfl, rfl⟩) (e_prop (e_var rfl) ⟨g, rfl, rfl⟩)) a_nil))) ⟨_, _, _, rfl, ?_, ?_, rfl⟩))) (fun z => by cases z) fun _ H3 a3 => w_next ?_)
    · omega
    · split <;> omega
    refine w_seq (w_if a3 (t_test (e_opI0 (e_opI0 (e_opI0 (e_prop (e_var rfl) ⟨f, rfl, rfl⟩) (e_prop (e_var rfl) ⟨g, rfl, rfl⟩)) (e_opI e_c (e_var rfl) (.inl (by decide)))) e_c)) (fun hb H4 a4 => ?_) fun _ H4 a4 => w_next ?_)
    · have hb := of_decide_eq_true hb
      exfalso; omega
    exact w_ret a4 (e_call (a_cons (e_call (a_cons (e_prop (e_var rfl) ⟨f, rfl, rfl⟩) (a_cons (e_prop (e_var rfl) ⟨g, rfl, rfl⟩) (a_cons (e_var rfl) a_nil))) ⟨f, g, k, rfl, hf, hg, hk, hfl, hgl, bf, bg, rfl⟩) a_nil) ⟨_, rfl, rfl⟩) fun v H' a' p => q v H' a'.kp a'.me p)
theorem cal_require_told (T : Gb mg) (C : C_require_told P w K mg base) (D : Dfn K mg "require_told" s_require_told) : C8.Cal P w K mg base 3 "require_told" (sp_require_told K) [] :=
  calP D sc_require_told bw_require_told (by rintro Rs R ⟨x, rfl, _⟩; rfl) (fun f cdv A outer s H E hr => der_require_told T C cdv A outer s H E hr) (by
    rintro Rs R ⟨f, rfl, h2, h7, rfl⟩ H0 σ H a Q q
    refine w_seq (w_drop a (e_call (a_cons (e_var rfl) a_nil) ⟨f, rfl, rfl⟩) fun H1 a1 => ?_)
    have hb : (decide ((1 : Int) ≤ (f.length : Int) - 1) && decide ((f.length : Int) - 1 ≤ 6)) = true := by
      rw [decide_eq_true (by omega), decide_eq_true (by omega)]; rfl
    exact w_if (b := false) a1 (t_not (a := true) (t_test ((e_chain e_c (e_prop (e_var rfl) ⟨f, rfl, rfl⟩) e_c).isB hb))) (fun z => by cases z) fun _ H2 a2 => w_next (q _ _ a2.kp a2.me rfl))
theorem cal_last_entry (T : Gb mg) (C : C_last_entry P w K mg base) (D : Dfn K mg "last_entry" s_last_entry) : C8.Cal P w K mg base 9 "last_entry" (sp_last_entry K) [] :=
  calP D sc_last_entry bw_last_entry (by rintro Rs R ⟨x, a, b, c, rfl, _⟩; rfl) (fun f cdv A outer s H E hr => der_last_entry T C cdv A outer s H E hr) (by
    rintro Rs R ⟨f, g, k, x, rfl, hf, hg, hk, hfl, hgl, bf, bg, hx, rfl⟩ H0 σ H a Q q
    exact w_ret a (e_ixI (e_prop (e_call (a_cons (e_var rfl) (a_cons (e_var rfl) (a_cons (e_var rfl) a_nil))) ⟨f, g, k, rfl, hf, hg, hk, hfl, hgl, bf, bg, rfl⟩) ⟨_, rfl, rfl⟩) e_c (by decide) (by rw [hx]; rfl)) fun v H' a' p => q v H' a'.kp a'.me p)
section
variable {c : Ct} {rs : List (Option Rl)} {ms : Ms} {ta tb : TE}
theorem e_plaid {f g : List Int} {n m k : Nat} (ha : EJ c rs ms ta (FmR K f)) (hb : EJ c rs ms tb (FmR K g)) (hf : k < f.length) (hg : k < g.length) (hk : k ≤ 6) (lf : f.length ≤ 20) (lg : g.length ≤ 20) (bf : Bd n f) (bg : Bd m g) (hn : n ≤ 40000) (hm : m ≤ 40000) :
    EJ c rs ms (tCall (sp_laid K) [] E0 (tCons ta (tCons tb (tCons (tC (.int (k : Int))) tNil)))) (FmR K (laid k f g)) :=
  e_call (a_cons ha (a_cons hb (a_cons e_c a_nil))) ⟨f, g, k, rfl, hf, hg, hk, lf, lg, bf.mono hn, bg.mono hm, rfl⟩
theorem e_plast {f g : List Int} {n m k : Nat} {x : Int} (ha : EJ c rs ms ta (FmR K f)) (hb : EJ c rs ms tb (FmR K g)) (hf : k < f.length) (hg : k < g.length) (hk : k ≤ 6) (lf : f.length ≤ 20) (lg : g.length ≤ 20) (bf : Bd n f) (bg : Bd m g) (hn : n ≤ 40000) (hm : m ≤ 40000) (hx : laid k f g = [x]) :
    EJ c rs ms (tCall (sp_last_entry K) [] E0 (tCons ta (tCons tb (tCons (tC (.int (k : Int))) tNil)))) (IsI x) :=
  e_call (a_cons ha (a_cons hb (a_cons e_c a_nil))) ⟨f, g, k, x, rfl, hf, hg, hk, lf, lg, bf.mono hn, bg.mono hm, hx, rfl⟩
end
theorem one_of {f g : List Int} {k : Nat} (hf : k < f.length) (hg : k < g.length) (h : f.length + g.length - 1 - 2 * k = 1) : ∃ x, laid k f g = [x] := by
  have l := laid_length hf hg
  rw [h] at l
  exact List.length_eq_one_iff.mp l
theorem cal_told_of_five (T : Gb mg) (C : C_told_of_five P w K mg base) (D : Dfn K mg "told_of_five" s_told_of_five) : C8.Cal P w K mg base 10 "told_of_five" (sp_told_of_five K) [] :=
  calP D sc_told_of_five bw_told_of_five (by rintro Rs R ⟨x, rfl, _⟩; rfl) (fun f cdv A outer s H E hr => der_told_of_five T C cdv A outer s H E hr) (by
    rintro Rs R ⟨f, rfl, h6, bf, rfl⟩ H0 σ H a Q q
    obtain ⟨b1, l1⟩ := LD (k := 4) (by omega) (by omega) (by omega) (by omega) bf bf
    obtain ⟨b2, l2⟩ := LD (k := 2) (by omega) (by omega) (by omega) (by omega) bf b1
    obtain ⟨b3, l3⟩ := LD (k := 2) (by omega) (by omega) (by omega) (by omega) b2 b2
    obtain ⟨x, hx⟩ := one_of (k := 2) (f := laid 4 f f) (g := laid 4 f f) (by omega) (by omega) (by omega)
    obtain ⟨y, hy⟩ := one_of (k := 2) (f := laid 4 f f) (g := laid 2 (laid 2 f (laid 4 f f)) (laid 2 f (laid 4 f f))) (by omega) (by omega) (by omega)
    obtain ⟨z, hz⟩ := one_of (k := 2) (f := laid 2 (laid 2 f (laid 4 f f)) (laid 2 f (laid 4 f f))) (g := laid 2 (laid 2 f (laid 4 f f)) (laid 2 f (laid 4 f f))) (by omega) (by omega) (by omega)
    have e : inv f = [x, y, z] := by
      unfold inv; rw [if_neg (by omega), if_neg (by omega), if_neg (by omega), if_pos (by omega), inv6, hx, hy, hz]; rfl
    rw [e] at q
    refine w_seq (w_set a (e_plaid (k := 4) (e_var rfl) (e_var rfl) (by omega) (by omega) (by omega) (by omega) (by omega) bf bf (by omega) (by omega)) fun σ1 H1 a1 => ?_)
    refine w_seq (w_set a1 (e_plaid (k := 2) (e_var rfl) (e_var rfl) (by omega) (by omega) (by omega) (by omega) (by omega) bf b1 (by omega) (by omega)) fun σ2 H2 a2 => ?_)
    refine w_seq (w_set a2 (e_plaid (k := 2) (e_var rfl) (e_var rfl) (by omega) (by omega) (by omega) (by omega) (by omega) b2 b2 (by omega) (by omega)) fun σ3 H3 a3 => ?_)
    exact w_ret a3 (e_tupI (ns := [x, y, z]) (a_cons (e_plast (k := 2) (e_var rfl) (e_var rfl) (by omega) (by omega) (by omega) (by omega) (by omega) b1 b1 (by omega) (by omega) hx) (a_cons (e_plast (k := 2) (e_var rfl) (e_var rfl) (by omega) (by omega) (by omega) (by omega) (by omega) b1 b3 (by omega) (by omega) hy) (a_cons (e_plast (k := 2) (e_var rfl) (e_var rfl) (by omega) (by omega) (by omega) (by omega) (by omega) b3 b3 (by omega) (by omega) hz) a_nil))) (by simp)) fun v H' a' p => q v H' a'.kp a'.me p)
theorem cal_told_of_six (T : Gb mg) (C : C_told_of_six P w K mg base) (D : Dfn K mg "told_of_six" s_told_of_six) : C8.Cal P w K mg base 10 "told_of_six" (sp_told_of_six K) [] :=
  calP D sc_told_of_six bw_told_of_six (by rintro Rs R ⟨x, rfl, _⟩; rfl) (fun f cdv A outer s H E hr => der_told_of_six T C cdv A outer s H E hr) (by
    rintro Rs R ⟨f, rfl, h7, bf, rfl⟩ H0 σ H a Q q
    obtain ⟨b1, l1⟩ := LD (k := 4) (by omega) (by omega) (by omega) (by omega) bf bf
    obtain ⟨b2, l2⟩ := LD (k := 4) (by omega) (by omega) (by omega) (by omega) bf b1
    obtain ⟨b3, l3⟩ := LD (k := 2) (by omega) (by omega) (by omega) (by omega) b1 b1
    obtain ⟨b4, l4⟩ := LD (k := 2) (by omega) (by omega) (by omega) (by omega) b1 b2
    obtain ⟨b5, l5⟩ := LD (k := 2) (by omega) (by omega) (by omega) (by omega) b1 b4
    obtain ⟨x, hx⟩ := one_of (k := 6) (f := f) (g := f) (by omega) (by omega) (by omega)
    obtain ⟨y, hy⟩ := one_of (k := 4) (f := laid 4 f f) (g := laid 4 f f) (by omega) (by omega) (by omega)
    obtain ⟨z, hz⟩ := one_of (k := 4) (f := laid 4 f f) (g := laid 2 (laid 4 f f) (laid 4 f f)) (by omega) (by omega) (by omega)
    obtain ⟨u, hu⟩ := one_of (k := 2) (f := laid 2 (laid 4 f f) (laid 2 (laid 4 f f) (laid 4 f (laid 4 f f)))) (g := laid 4 f (laid 4 f f)) (by omega) (by omega) (by omega)
    have e : inv f = [x, y, z, u] := by
      unfold inv; rw [if_neg (by omega), if_neg (by omega), if_neg (by omega), if_neg (by omega), if_pos (by omega), inv7, hx, hy, hz, hu]; rfl
    rw [e] at q
    refine w_seq (w_set a (e_plaid (k := 4) (e_var rfl) (e_var rfl) (by omega) (by omega) (by omega) (by omega) (by omega) bf bf (by omega) (by omega)) fun σ1 H1 a1 => ?_)
    refine w_seq (w_set a1 (e_plaid (k := 4) (e_var rfl) (e_var rfl) (by omega) (by omega) (by omega) (by omega) (by omega) bf b1 (by omega) (by omega)) fun σ2 H2 a2 => ?_)
    refine w_seq (w_par a2 (a_cons (e_plaid (k := 2) (e_var rfl) (e_var rfl) (by omega) (by omega) (by omega) (by omega) (by omega) b1 b1 (by omega) (by omega)) (a_cons (e_plaid (k := 2) (e_var rfl) (e_plaid (k := 2) (e_var rfl) (e_var rfl) (by omega) (by omega) (by omega) (by omega) (by omega) b1 b2 (by omega) (by omega)) (by omega) (by omega) (by omega) (by omega) (by omega) b1 b4 (by omega) (by omega)) a_nil)) fun σ3 H3 a3 => ?_)
    exact w_ret a3 (e_tupI (ns := [x, y, z, u]) (a_cons (e_plast (k := 6) (e_var rfl) (e_var rfl) (by omega) (by omega) (by omega) (by omega) (by omega) bf bf (by omega) (by omega) hx) (a_cons (e_plast (k := 4) (e_var rfl) (e_var rfl) (by omega) (by omega) (by omega) (by omega) (by omega) b1 b1 (by omega) (by omega) hy) (a_cons (e_plast (k := 4) (e_var rfl) (e_var rfl) (by omega) (by omega) (by omega) (by omega) (by omega) b1 b3 (by omega) (by omega) hz) (a_cons (e_plast (k := 2) (e_var rfl) (e_var rfl) (by omega) (by omega) (by omega) (by omega) (by omega) b5 b2 (by omega) (by omega) hu) a_nil)))) (by simp)) fun v H' a' p => q v H' a'.kp a'.me p)
theorem cal_told_in (T : Gb mg) (C : C_told_in P w K mg base) (D : Dfn K mg "told_in" s_told_in) : C8.Cal P w K mg base 11 "told_in" (sp_told_in K) [] :=
  calP D sc_told_in bw_told_in (by rintro Rs R ⟨x, rfl, _⟩; rfl) (fun f cdv A outer s H E hr => der_told_in T C cdv A outer s H E hr) (by
    rintro Rs R ⟨f, rfl, h2, h7, bf, rfl⟩ H0 σ H a Q q
    refine w_seq (w_if a (t_test (e_eqI (e_prop (e_var rfl) ⟨f, rfl, rfl⟩) e_c)) (fun hb H2 a2 => ?_) (fun hb H2 a2 => w_next ?_))
    · have hb := of_decide_eq_true hb
      have e : inv f = [] := by unfold inv; rw [if_neg (by omega), if_neg (by omega), if_neg (by omega), if_neg (by omega), if_neg (by omega)]
      rw [e] at q
      exact w_ret a2 (e_tup0 (K := K)) fun v H' a' p => q v H' a'.kp a'.me p
    have n1 := of_decide_eq_false hb
    refine w_seq (w_if a2 (t_test (e_eqI (e_prop (e_var rfl) ⟨f, rfl, rfl⟩) e_c)) (fun hb H3 a3 => ?_) (fun hb H3 a3 => w_next ?_))
    · have hb := of_decide_eq_true hb
      obtain ⟨x, hx⟩ := one_of (k := 2) (f := f) (g := f) (by omega) (by omega) (by omega)
      have e : inv f = [x] := by unfold inv; rw [if_pos (by omega), hx]
      rw [e] at q
      exact w_ret a3 (e_tup1 (K := K) (e_plast (k := 2) (e_var rfl) (e_var rfl) (by omega) (by omega) (by omega) (by omega) (by omega) bf bf (by omega) (by omega) hx)) fun v H' a' p => q v H' a'.kp a'.me p
    have n2 := of_decide_eq_false hb
    refine w_seq (w_if a3 (t_test (e_eqI (e_prop (e_var rfl) ⟨f, rfl, rfl⟩) e_c)) (fun hb H4 a4 => ?_) (fun hb H4 a4 => w_next ?_))
    · have hb := of_decide_eq_true hb
      exact w_ret a4 (e_call (a_cons (e_var rfl) a_nil) ⟨f, rfl, by omega, bf, rfl⟩) fun v H' a' p => q v H' a'.kp a'.me p
    have n5 := of_decide_eq_false hb
    refine w_seq (w_if a4 (t_test (e_eqI (e_prop (e_var rfl) ⟨f, rfl, rfl⟩) e_c)) (fun hb H5 a5 => ?_) (fun hb H5 a5 => w_next ?_))
    · have hb := of_decide_eq_true hb
      exact w_ret a5 (e_call (a_cons (e_var rfl) a_nil) ⟨f, rfl, by omega, bf, rfl⟩) fun v H' a' p => q v H' a'.kp a'.me p
    have n6 := of_decide_eq_false hb
    obtain ⟨b1, l1⟩ := LD (k := 2) (by omega) (by omega) (by omega) (by omega) bf bf
    refine w_seq (w_set a5 (e_plaid (k := 2) (e_var rfl) (e_var rfl) (by omega) (by omega) (by omega) (by omega) (by omega) bf bf (by omega) (by omega)) fun σ6 H6 a6 => ?_)
    refine w_seq (w_if a6 (t_test (e_eqI (e_prop (e_var rfl) ⟨f, rfl, rfl⟩) e_c)) (fun hb H7 a7 => ?_) (fun hb H7 a7 => w_next ?_))
    · have hb := of_decide_eq_true hb
      obtain ⟨x, hx⟩ := one_of (k := 2) (f := laid 2 f f) (g := laid 2 f f) (by omega) (by omega) (by omega)
      have e : inv f = [x] := by unfold inv; rw [if_neg (by omega), if_pos (by omega), hx]
      rw [e] at q
      exact w_ret a7 (e_tup1 (K := K) (e_plast (k := 2) (e_var rfl) (e_var rfl) (by omega) (by omega) (by omega) (by omega) (by omega) b1 b1 (by omega) (by omega) hx)) fun v H' a' p => q v H' a'.kp a'.me p
    have n3 := of_decide_eq_false hb
    obtain ⟨x, hx⟩ := one_of (k := 4) (f := f) (g := f) (by omega) (by omega) (by omega)
    obtain ⟨y, hy⟩ := one_of (k := 4) (f := f) (g := laid 2 f f) (by omega) (by omega) (by omega)
    have e : inv f = [x, y] := by unfold inv; rw [if_neg (by omega), if_neg (by omega), if_pos (by omega), inv5, hx, hy]; rfl
    rw [e] at q
    exact w_ret a7 (e_tup2 (K := K) (e_plast (k := 4) (e_var rfl) (e_var rfl) (by omega) (by omega) (by omega) (by omega) (by omega) bf bf (by omega) (by omega) hx) (e_plast (k := 4) (e_var rfl) (e_var rfl) (by omega) (by omega) (by omega) (by omega) (by omega) bf b1 (by omega) (by omega) hy)) fun v H' a' p => q v H' a'.kp a'.me p)
theorem cal_told_invariants (T : Gb mg) (C : C_told_invariants P w K mg base) (D : Dfn K mg "told_invariants" s_told_invariants) : C8.Cal P w K mg base 12 "told_invariants" (sp_told_invariants K) [] :=
  calP D sc_told_invariants bw_told_invariants (by rintro Rs R ⟨x, rfl, _⟩; rfl) (fun f cdv A outer s H E hr => der_told_invariants T C cdv A outer s H E hr) (by
    rintro Rs R ⟨f, rfl, h2, h7, bf, rfl⟩ H0 σ H a Q q
    exact w_seq (w_drop a (e_call (a_cons (e_var rfl) a_nil) ⟨f, rfl, h2, h7, rfl⟩) fun H1 a1 => w_ret a1 (e_call (a_cons (e_var rfl) a_nil) ⟨f, rfl, h2, h7, bf, rfl⟩) fun v H' a' p => q v H' a'.kp a'.me p))
end
end K45
namespace K45
open PySem PySem.Spec PyProof.Rows L2
/-! ### the law's dice, picks, mixtures -/
abbrev sp__law_dice (K : PySem.W.Frag) : Sp := spXL fun Rs xs Rs' => ∃ (ns : List Int) (i : Nat), Rs = [LfI ns, IsI (i : Int)] ∧ xs = [] ∧ Rs' = [AnyI, AnyI, AnyI]
abbrev sp__law_pick (K : PySem.W.Frag) : Sp := spD fun Rs R => ∃ ns : List Int, Rs = [LfI ns] ∧ 1 ≤ ns.length ∧ ns.length ≤ 1000 ∧ R = InR (· ∈ ns)
/-- the items in another order, as a new list -/
def spMx : Sp := fun vs H Q _ => ∃ (d : Addr) (e : V) (F : Nat → Rl) (ix : List Nat), vs = [.ref d, e] ∧ (LfR (ix.map F)).p e H ∧ ix.length ≤ 100 ∧ (∃ xs, Dice xs ∧ H d = some (.lst xs)) ∧
  ∀ (p : Addr) (ys : List V) (ix' : List Nat) (H' : Hp), ix'.Perm ix → p ≠ d → Kp [d] H (del H' p) → H' p = some (.lst ys) → Ps (ix'.map F) ys (del H' p) → (∃ xs, Dice xs ∧ H' d = some (.lst xs)) → Q (.ref p) H'
abbrev sp__law_mixed (K : PySem.W.Frag) : Sp := spMx
section
variable {c : Ct} {rs : List (Option Rl)} {ms : Ms} {σ : L2.St} {H H' : Hp} {K : PySem.W.Frag} {R Ra Rb Rc : Rl} {te ta tb to tv : TE} {tt : TT} {tr : TA} {Rs Ws Rs' : List Rl} {E : XK} {nx : L2.St → Hp → Prop} {rt : VK} {bk ct : L2.St → Hp → Prop}
/-- a new list whose items are not fully told -/
def ELX {α : Type} (c : Ct) (rs : List (Option Rl)) (ms : Ms) (te : TE) (χ : α → Prop) (Rs : α → List Rl) : Prop := ∀ σ H, At c rs ms σ H → ∀ Q : VK, (∀ z, χ z → ∀ p xs H', At c rs ms σ (del H' p) → Kp (ads ms) H (del H' p) → H' p = some (.lst xs) → Ps (Rs z) xs (del H' p) → Q (.ref p) H') → te σ H Q
theorem elx_mixed {d : Addr} {F : Nat → Rl} {ix : List Nat} (hd : (d, Dice) ∈ ms) (h : AJ c rs ms tr [IsV (.ref d), LfR (ix.map F)]) (hl : ix.length ≤ 100) : ELX c rs ms (tCall spMx [] E tr) (fun jx : List Nat => jx.Perm ix) (fun jx => jx.map F) := fun σ H a Q q =>
  h σ H a _ fun vs H1 a1 k1 p1 => by
    obtain ⟨v, e, rfl, ev, pe⟩ := ps2 p1
    cases (show v = .ref d from ev)
    refine ⟨d, e, F, ix, by rw [List.append_nil], pe, hl, a1.me _ hd, fun p ys jx H2 hp ne k2 e2 p2 hd2 => ?_⟩
    have k3 : Kp (ads ms) H1 (del H2 p) := fun x o hx n => k2 x o hx fun z => by
      have e : x = d := by simpa using z
      subst e; exact n (mem_ads hd)
    refine q jx hp p ys H2 (a1.step k3 (fun m hm => ?_) rfl) (k1.trans k3) e2 p2
    by_cases e : m.1 = d
    · have em : m = (d, Dice) := ms_uniq a1.nd hm hd e
      subst em
      obtain ⟨xs, f1, f2⟩ := hd2
      exact ⟨xs, f1, by rw [del_ne (Ne.symm ne)]; exact f2⟩
    · obtain ⟨xs, e1, f1⟩ := a1.me m hm
      exact ⟨xs, e1, k2 _ _ f1 (by simpa using e)⟩
theorem elx_frz {α : Type} {χ : α → Prop} {F : α → List Rl} (h : ELX c rs ms te χ F) : EJ c rs ms (tFrz te) (AnyR χ fun z => LfR (F z)) := fun σ H a Q q =>
  h σ H a _ fun z hz p xs H1 a1 k1 e1 p1 => ⟨p, xs, rfl, e1, fun od => by
    have n : Kp [] (del H1 p) (upd H1 p (.frz od (.lst xs))) := by
      have := Kp.new (H := del H1 p) (p := p) (o := .frz od (.lst xs)) del_same
      rwa [upd_del'] at this
    exact q _ _ (a1.grow n) (k1.trans n.any) ⟨z, hz, p, xs, od, rfl, upd_same, p1.mono n.im0⟩⟩
/-- it is named, and may be changed -/
theorem w_setLX {α : Type} {χ : α → Prop} {F : α → List Rl} {i : Nat} (a : At c rs ms σ H) (h : ELX c rs ms te χ F) (k : ∀ z, χ z → ∀ p ws σ' H', At c (rs.set i (some (LsR p ws (F z)))) ((p, (· = ws)) :: ms) σ' H' → nx σ' H') : tAsg te (gName i) ⟨nx, rt, bk, ct⟩ σ H :=
  h σ H a _ fun z hz p xs H1 a1 _ e pp => k z hz p xs _ _ ((a1.add e (φ := (· = xs)) rfl).set (r := LsR p xs (F z)) ⟨rfl, pp.mono (kp_del e).im0⟩)
theorem w_asgG {g : TG} {is : List Nat} {rs' : List (Option Rl)} (a : At c rs ms σ H) (h : EJ c rs ms te R) (hg : GJ c rs ms g R is rs') (k : ∀ σ' H', At c rs' ms σ' H' → nx σ' H') : tAsg te g ⟨nx, rt, bk, ct⟩ σ H :=
  h σ H a _ fun v H1 a1 _ p => hg v σ H1 a1 p _ fun σ' b _ => k σ' H1 b
/-- what is walked is one of those -/
theorem ijx_listFR {α : Type} {χ : α → Prop} {F : α → List Rl} (h : EJ c rs ms te (AnyR χ fun z => LfR (F z))) : IJX c rs ms (iList K te) χ (fun z => (F z).length) (fun z i => ((F z)[i]?).getD (IsV .non)) [] := fun σ H a T t =>
  h σ H a _ fun v H1 a1 k1 p1 => by
    obtain ⟨z, hz, b, xs, o, rfl, hs, hp⟩ := p1
    have hl := hp.len
    refine ⟨b, rfl, ⟨_, sql_frz hs⟩, t z hz _ H1 (gFrz b xs (F z)) a1 k1 ⟨⟨o, hs⟩, hp⟩ ⟨fun i H hi ⟨⟨o, g⟩, _⟩ _ => ⟨xs, xs[i]'(by rw [hl]; exact hi), sql_frz g, List.getElem?_eq_getElem _⟩, fun H ⟨⟨o, g⟩, _⟩ _ => ⟨xs, sql_frz g, Nat.le_of_eq hl⟩, fun i H x H' hi ⟨⟨o, g⟩, g2⟩ _ y => ?_⟩⟩
    have hi : i < (F z).length := hi
    obtain ⟨e1, e2⟩ := y
    subst e1
    refine ⟨Kp.refl _ _, ?_⟩
    obtain ⟨w, e3, e4⟩ := g2.get (i := i) (r := (F z)[i]) (by simp [hi])
    have e5 := e2 xs (sql_frz g)
    rw [e3] at e5
    have e6 : w = x := Option.some.inj e5
    rw [← e6]
    simp [hi]; exact e4
/-- a comprehension over it -/
theorem elx_lc {α : Type} {χ : α → Prop} {wi : L2.TI} {g : TG} {vs : List Nat} {n : α → Nat} {Y F : α → Nat → Rl} {rs' : α → Nat → List (Option Rl)} (hi : IJX c rs ms wi χ n Y []) (hn : ∀ z, χ z → n z ≤ 1000)
    (hg : ∀ z, χ z → ∀ i, i < n z → ∀ (c : Ct) (ms : Ms), GJ c (wipeR rs vs) ms g (Y z i) vs (rs' z i))
    (he : ∀ z, χ z → ∀ i, i < n z → ∀ (x : Gh) (D : Addr) (acc : List V), EJ (c.add x) (rs' z i) ((D, (· = acc)) :: ms) te (F z i)) : ELX c rs ms (tLc wi g tYes te vs) χ (fun z => (List.range (n z)).map (F z)) := fun σ H a Q q =>
  hi σ H a _ fun z hz J H1 gg a1 k1 hgg w =>
    (el_lc (wi := fun σ' H' T => σ' = σ → H' = H1 → T J H1) (te := te) (vs := vs) (is := vs) (n := n z) (Y := Y z) (F := F z) (gm := []) (rs' := rs' z) (ms := ms) (c := c) (rs := rs)
      (fun σ' H' a' T t e1 e2 => by
        subst e1 e2
        exact t J _ gg a1 (Kp.refl _ _) hgg w) (fun m hm => by cases hm) (fun i hi => hi) (hn z hz) (hg z hz) (he z hz) σ H1 a1 Q fun p xs H' a' k' e r => q z hz p xs H' a' (k1.trans k') e r) rfl rfl
end
end K45
namespace K45
open PySem PySem.Spec PyProof.Rows L2
local macro_rules | `(tactic| walk_at "ev") => `(tactic| repeat' first
  | exact e_var rfl | exact e_c | exact a_nil | refine a_cons ?_ ?_
  | refine e_opI0 ?_ ?_ | refine e_opI ?_ ?_ ?_ | refine e_eqI ?_ ?_ | refine e_neI ?_ ?_ | refine e_neg ?_
  | refine e_lenI ?_ | refine e_lenR ?_ | refine e_abs ?_ | refine e_max ?_ ?_ | refine e_min ?_ ?_ | refine e_intB ?_ | refine e_intI ?_
  | refine e_chain ?_ ?_ ?_ | refine e_ixI ?_ ?_ ?_ ?_ | refine e_ixR ?_ ?_ ?_ ?_
  | refine e_slHead ?_ ?_ ?_ | refine e_slTail ?_ ?_ ?_
  | refine t_test ?_ | refine t_b ?_ | refine e_ifI ?_ ?_ ?_
  | refine ij_zipT ?_ ?_ | refine ij_tupI ?_ | refine ij_rng ?_ ?_
  | exact g_name | exact g_pair)
local macro_rules | `(tactic| walk_at "evn") => `(tactic| repeat' first
  | exact e_var rfl | exact EJ.any e_c | exact EJ.any (e_var rfl) | exact EJ.anyN (e_var rfl) | refine e_diceC (d := ‹Addr›) List.mem_cons_self ?_ (by decide) | refine e_mulL (φ := fun _ => True) (by decide) ?_ | refine e_mulR (φ := fun _ => True) (by decide) ?_ | exact e_c
  | refine e_a0 ?_ ?_ | refine e_intN ?_)
local macro_rules | `(tactic| walk_at "wk") => `(tactic| repeat' first | exact wk_nil | refine wk_none ?_ | refine wk_some (fun _ _ h => h) ?_)
abbrev N__law_dice : List Str := ["_law_script", "_law_spot", "_law_cell", "_law_left"]
theorem sc__law_dice : FnScope N__law_dice ["_law_script", "_law_spot"] (defScope s__law_dice) := ⟨rfl, rfl, rfl, by decide +kernel, rfl, by decide +kernel, by decide +kernel⟩
def t__law_dice (K : PySem.W.Frag) : TS := (tSeq (tAsg (tIf (tTest (tOp rLtB (tVar 1) (tCB (rLen K) (tCons (tVar 0) tNil)))) (tCB rInt1 (tCons (tOp (rIxL K) (tVar 0) (tVar 1)) tNil)) (tOp rAddI (tOp rMulI (tC (.int 89)) (tVar 1)) (tC (.int 37)))) (gName 2))
  (tSeq (tAsg (tOp rModI (tCB rMax2 (tCons (tC (.int 0)) (tCons (tOp rSubI (tCB rAbsI (tCons (tVar 2) tNil)) (tOp rPowI (tC (.int 10)) (tC (.int 16)))) tNil))) (tOp rMulW (tOp rPowI (tC (.int 10)) (tC (.int 60))) (tOp rPowI (tC (.int 10)) (tC (.int 60))))) (gName 3))
  (tRet (tLst (tCons (tVar 3) (tCons (tOp rAddI (tOp rAddI (tOp rAddI (tOp rMulI (tOp rModI (tCB rAbsI (tCons (tVar 2) tNil)) (tC (.int 1152921504606846697))) (tC (.int 83))) (tOp rMulI (tC (.int 883)) (tVar 1))) (tOp rMulI (tC (.int 43)) (tCB rInt1 (tCons (tOp rLtB (tVar 2) (tC (.int 0))) tNil)))) (tC (.int 19))) (tCons (tC (.int 0)) tNil)))))))
theorem der__law_dice {P : Program} {w : World} {K : PySem.W.Frag} {mg : Str → Option Value} {base : Heap} {f : Addr} (T : Gb mg) (cdv : Value) (A : Around) (outer : List Env) (s : Shared) (H : Hp) (E : XK) (hr : Room 0 (A.deeper (envOfC "_law_dice" (defScope s__law_dice) s.heap.objs.size f cdv))) :
    PSs (cxOf CX0 P w K mg base N__law_dice "_law_dice" (defScope s__law_dice) f cdv A outer s H E).nox (defBody s__law_dice) (t__law_dice K) :=
  (pss_cons (ps_set (i := 2) sc__law_dice.nd rfl (.inl rfl) (pe_ifExp (pt_cmpR op_lt (pv 1) (pe_callB call_len_seq (by rfl) T.len_ (by decide +kernel) (pa_cons (pv 0) pa_nil)) (nomark _)) (pe_callTy call_int1 (by rfl) T.int_ (by decide +kernel) (pa_cons (pe_ix ix_list (pv 0) (pv 1) (fun _ _ => rfl)) pa_nil)) (pe_op op_add (pe_op op_mul pe_int (pv 1)) pe_int)))
      (pss_cons (ps_set (i := 3) sc__law_dice.nd rfl (.inl rfl) (pe_op op_mod (pe_callB (call_max2 rfl) (by rfl) T.max_ (by decide +kernel) (pa_cons pe_int (pa_cons (pe_op op_sub (pe_callB call_abs (by rfl) T.abs_ (by decide +kernel) (pa_cons (pv 2) pa_nil)) (pe_op op_pow pe_int pe_int)) pa_nil))) (pe_op op_mulW (pe_op op_pow pe_int pe_int) (pe_op op_pow pe_int pe_int))))
      (pss_one (ps_ret (pe_lst (pa_cons (pv 3) (pa_cons (pe_op op_add (pe_op op_add (pe_op op_add (pe_op op_mul (pe_op op_mod (pe_callB call_abs (by rfl) T.abs_ (by decide +kernel) (pa_cons (pv 2) pa_nil)) pe_int) pe_int) (pe_op op_mul pe_int (pv 1))) (pe_op op_mul pe_int (pe_callTy call_int1 (by rfl) T.int_ (by decide +kernel) (pa_cons (pe_cmpR op_lt (pv 2) pe_int (nomark _)) pa_nil)))) pe_int) (pa_cons pe_int pa_nil))))))))
abbrev N__law_pick : List Str := ["_law_dice_here", "_law_items"]
theorem sc__law_pick : FnScope N__law_pick ["_law_dice_here", "_law_items"] (defScope s__law_pick) := ⟨rfl, rfl, rfl, by decide +kernel, rfl, by decide +kernel, by decide +kernel⟩
def t__law_pick (K : PySem.W.Frag) : TS := (tRet (tOp (rIxL K) (tVar 1) (tCall (sp__law_roll K) [] E0 (tCons (tVar 0) (tCons (tCB (rLen K) (tCons (tVar 1) tNil)) tNil)))))
structure C__law_pick (P : Program) (w : World) (K : PySem.W.Frag) (mg : Str → Option Value) (base : Heap) : Prop where
  _law_roll_ : C8.Cal P w K mg base 1 "_law_roll" (sp__law_roll K) []
theorem der__law_pick {P : Program} {w : World} {K : PySem.W.Frag} {mg : Str → Option Value} {base : Heap} {f : Addr} (T : Gb mg) (C : C__law_pick P w K mg base) (cdv : Value) (A : Around) (outer : List Env) (s : Shared) (H : Hp) (E : XK) (hr : Room 1 (A.deeper (envOfC "_law_pick" (defScope s__law_pick) s.heap.objs.size f cdv))) :
    PSs (cxOf CX0 P w K mg base N__law_pick "_law_pick" (defScope s__law_pick) f cdv A outer s H E).nox (defBody s__law_pick) (t__law_pick K) :=
  (pss_one (ps_ret (pe_ix ix_list (pv 1) (C8.pe_c C._law_roll_ hr (by decide) (by rfl) (pa_cons (pv 0) (pa_cons (pe_callB call_len_seq (by rfl) T.len_ (by decide +kernel) (pa_cons (pv 1) pa_nil)) pa_nil))) (fun _ _ => rfl))))
abbrev N__law_mixed : List Str := ["_law_dice_here", "_law_items", "_law_turn", "_law_left", "_law_found"]
theorem sc__law_mixed : FnScope N__law_mixed ["_law_dice_here", "_law_items"] (defScope s__law_mixed) := ⟨rfl, rfl, rfl, by decide +kernel, rfl, by decide +kernel, by decide +kernel⟩
def t__law_mixed (K : PySem.W.Frag) : TS := (tSeq (tPar 3 4 (tCons (tCB (rListOf K) (tCons (tVar 1) tNil)) (tCons (tLst tNil) tNil)))
  (tSeq (tFor (iRng1 (tCons (tCB (rLen K) (tCons (tVar 1) tNil)) tNil)) (gName 2) (tDrop (tBM K "list" rAppend (tVar 4) (tCons (tBM K "list" rPopAt (tVar 3) (tCons (tCall (sp__law_roll K) [] E0 (tCons (tVar 0) (tCons (tCB (rLen K) (tCons (tVar 3) tNil)) tNil))) tNil)) tNil))))
  (tRet (tVar 4))))
structure C__law_mixed (P : Program) (w : World) (K : PySem.W.Frag) (mg : Str → Option Value) (base : Heap) : Prop where
  _law_roll_ : C8.Cal P w K mg base 1 "_law_roll" (sp__law_roll K) []
theorem der__law_mixed {P : Program} {w : World} {K : PySem.W.Frag} {mg : Str → Option Value} {base : Heap} {f : Addr} (T : Gb mg) (C : C__law_mixed P w K mg base) (cdv : Value) (A : Around) (outer : List Env) (s : Shared) (H : Hp) (E : XK) (hr : Room 1 (A.deeper (envOfC "_law_mixed" (defScope s__law_mixed) s.heap.objs.size f cdv))) :
    PSs (cxOf CX0 P w K mg base N__law_mixed "_law_mixed" (defScope s__law_mixed) f cdv A outer s H E).nox (defBody s__law_mixed) (t__law_mixed K) :=
  (pss_cons (ps_par (i := 3) (j := 4) rfl sc__law_mixed.nd rfl rfl (by decide) rfl rfl (pa_cons (pe_callTy call_list_of (by rfl) T.list_ (by decide +kernel) (pa_cons (pv 1) pa_nil)) (pa_cons (pe_lst pa_nil) pa_nil)) rfl)
      (pss_cons (ps_for PassesOwn.never rfl (pi_range1 rfl T.range_ (pa_cons (pe_callB call_len_seq (by rfl) T.len_ (by decide +kernel) (pa_cons (pv 1) pa_nil)) pa_nil)) (pg_name (i := 2) sc__law_mixed.nd rfl (Or.inl rfl)) (pss_one (ps_expr (pe_bm PySem.F.plainAttrs_list PySem.F.slot_list_append PySem.F.type_list_append mt_append (pv 4) (pa_cons (pe_bm PySem.F.plainAttrs_list PySem.F.slot_list_pop PySem.F.type_list_pop mt_popAt (pv 3) (pa_cons (C8.pe_c C._law_roll_ hr (by decide) (by rfl) (pa_cons (pv 0) (pa_cons (pe_callB call_len_seq (by rfl) T.len_ (by decide +kernel) (pa_cons (pv 3) pa_nil)) pa_nil))) pa_nil)) pa_nil)))))
      (pss_one (ps_ret (pv 4)))))
theorem bw__law_dice : BindsW "_law_dice" s__law_dice ["_law_script", "_law_spot"] := fun kV doc pm an cdv ct us h => by
  match us, h with
  | [_, _], _ => rfl
theorem bw__law_pick : BindsW "_law_pick" s__law_pick ["_law_dice_here", "_law_items"] := fun kV doc pm an cdv ct us h => by
  match us, h with
  | [_, _], _ => rfl
theorem bw__law_mixed : BindsW "_law_mixed" s__law_mixed ["_law_dice_here", "_law_items"] := fun kV doc pm an cdv ct us h => by
  match us, h with
  | [_, _], _ => rfl
theorem perm_erase {α : Type} : ∀ {l : List α} {i : Nat} {x : α}, l[i]? = some x → (x :: l.eraseIdx i).Perm l
  | y :: l, 0, x, h => by
    have e : y = x := by simpa using h
    subst e; exact List.Perm.refl _
  | y :: l, i + 1, x, h => by
    have h2 : l[i]? = some x := by simpa using h
    exact (List.Perm.swap y x _).trans ((perm_erase h2).cons y)
theorem map_erase {α β : Type} (f : α → β) : ∀ (l : List α) (i : Nat), (l.map f).eraseIdx i = (l.eraseIdx i).map f
  | [], _ => rfl
  | y :: l, 0 => rfl
  | y :: l, i + 1 => by
    show f y :: (l.map f).eraseIdx i = f y :: (l.eraseIdx i).map f
    rw [map_erase f l i]
theorem ps_erase : ∀ {Rs : List Rl} {ws : List V} {H : Hp}, Ps Rs ws H → ∀ k, Ps (Rs.eraseIdx k) (ws.eraseIdx k) H
  | [], [], _, _, _ => trivial
  | r :: rs, w :: ws, _, h, 0 => h.2
  | r :: rs, w :: ws, _, h, k + 1 => ⟨h.1, ps_erase h.2 k⟩
  | [], _ :: _, _, h, _ => h.elim
  | _ :: _, [], _, h, _ => h.elim
section
variable {c : Ct} {rs : List (Option Rl)} {ms : Ms} {σ : L2.St} {H H' : Hp} {K : PySem.W.Frag} {R R' Ra Rb Rc : Rl} {te ta tb to tv : TE} {tt : TT} {tr : TA} {Rs Ws Rs' : List Rl} {E : XK} {nx : L2.St → Hp → Prop} {rt : VK} {bk ct : L2.St → Hp → Prop}
theorem At.re {i : Nat} (h : At c rs ms σ H) (e : rs[i]? = some (some R)) (w : ∀ v, R.p v H → R'.p v H) : At c (rs.set i (some R')) ms σ H := by
  obtain ⟨v, e1, p⟩ := h.sl i _ e
  have b := h.set (i := i) (r := R') (w v p)
  have : σ.set i (some v) = σ := by
    apply List.ext_getElem?
    intro j
    by_cases ej : i = j
    · subst ej
      rw [e1, List.getElem?_set_self (List.getElem?_eq_some_iff.mp e1).1]
    · rw [List.getElem?_set_ne ej]
  rwa [this] at b
theorem w_parLL {i j : Nat} (a : At c rs ms σ H) (h1 : EL c rs ms ta Rs) (h2 : ∀ p ws, EL c rs ((p, (· = ws)) :: ms) tb Ws)
    (k : ∀ p1 ws1 p2 ws2 σ' H', At c ((rs.set i (some (LsR p1 ws1 Rs))).set j (some (LsR p2 ws2 Ws))) ((p2, (· = ws2)) :: (p1, (· = ws1)) :: ms) σ' H' → nx σ' H') : tPar i j (tCons ta (tCons tb tNil)) ⟨nx, rt, bk, ct⟩ σ H :=
  h1 σ H a _ fun p xs H1 a1 k1 e1 p1 => by
    have b1 : At c rs ((p, (· = xs)) :: ms) σ H1 := a1.add e1 rfl
    refine h2 p xs σ H1 b1 _ fun p2 ys H2 a2 k2 e2 pp2 => ?_
    have g1 : Ps Rs xs H2 := ((p1.mono (kp_del e1).im0).mono (k2.im b1.me)).mono (kp_del e2).im0
    have g2 : Ps Ws ys H2 := pp2.mono (kp_del e2).im0
    exact ⟨_, _, rfl, k p xs p2 ys _ _ (((a2.add e2 (φ := (· = ys)) rfl).set (r := LsR p xs Rs) ⟨rfl, g1⟩).set (r := LsR p2 ys Ws) ⟨rfl, g2⟩)⟩
end
theorem lsr_snoc {p : Addr} {ws : List V} {Rs : List Rl} {R : Rl} {y v : V} {H : Hp} (h : (LsR p ws Rs).p v H) (hy : R.p y H) : (LsR p (ws ++ [y]) (Rs ++ [R])).p v H := ⟨h.1, ps_snoc h.2 hy⟩
section
variable {P : Program} {w : World} {K : PySem.W.Frag} {mg : Str → Option Value} {base : Heap}
theorem cal__law_dice (T : Gb mg) (D : Dfn K mg "_law_dice" s__law_dice) : C8.Cal P w K mg base 1 "_law_dice" (sp__law_dice K) [] :=
  calXL D sc__law_dice bw__law_dice (by rintro Rs xs R ⟨n, i, rfl, _⟩; rfl) (fun f cdv A outer s H E hr => der__law_dice T cdv A outer s H E hr) (by
    rintro Rs xs R ⟨ns, i, rfl, rfl, rfl⟩ H0 σ H a Q q
    have hm : EJ ⟨H0, [], []⟩ [some (LfI ns), some (IsI (i : Int)), none, none] [] (tIf (tTest (tOp rLtB (tVar 1) (tCB (rLen K) (tCons (tVar 0) tNil)))) (tCB rInt1 (tCons (tOp (rIxL K) (tVar 0) (tVar 1)) tNil)) (tOp rAddI (tOp rMulI (tC (.int 89)) (tVar 1)) (tC (.int 37)))) AnyI :=
      e_if (b := decide ((i : Int) < (ns.length : Int))) (t_test (e_opI0 (e_var rfl) (e_lenF (e_var rfl)))) (fun hb => by
        have hb := of_decide_eq_true hb
        have hi : i < ns.length := by omega
        exact EJ.anyN (e_intN (EJ.one (e_ixF (x := ns[i]) (e_var rfl) (e_var rfl) (by omega) (by rw [Int.toNat_natCast]; exact List.getElem?_eq_getElem hi)))))
        fun _ => EJ.any (e_opI0 (e_opI e_c (e_var rfl) (.inl (by decide))) e_c)
    refine w_seq (w_setA (φ := fun _ => True) a hm fun cell _ σ1 H1 a1 => ?_)
    refine w_seq (w_set (R := AnyI) a1 (EJ.anyN (e_modN (n := 10 ^ 60 * 10 ^ 60) (φ := fun _ => True) (by decide) (EJ.any (e_max e_c (e_opI0 (e_abs (e_var rfl)) (e_opI e_c e_c ⟨by decide, by decide, by decide⟩)))) (e_opI (i := 10 ^ 60) (j := 10 ^ 60) (e_opI (i := 10) (j := 60) e_c e_c ⟨by decide, by decide, by decide⟩) (e_opI (i := 10) (j := 60) e_c e_c ⟨by decide, by decide, by decide⟩) (cmulw (n := 200) (m := 200) (by decide +kernel) (by decide +kernel) (by decide))))) fun σ2 H2 a2 => ?_)
    refine (el_lst (a_cons (e_var rfl) (a_cons (e_a0 (e_a0 (e_a0 (e_mulR (φ := fun r => 0 ≤ r ∧ r < 1152921504606846697) (by decide) (e_modN (φ := fun _ => True) (by decide) (EJ.any (e_abs (e_var rfl))) e_c)) (EJ.any (e_opI e_c (e_var rfl) (.inl (by decide))))) (e_mulL (φ := fun r => r = 0 ∨ r = 1) (by decide) (e_intBN (e_cmpN (φ := fun _ => True) (ψ := fun _ => True) (EJ.any (e_var rfl)) (EJ.any e_c))))) (EJ.any e_c)) (a_cons (EJ.any e_c) a_nil))) (by simp)) σ2 H2 a2 _ fun p xs H3 a3 k3 e3 p3 => q p xs H3 a3.kp (fun m hm => by cases hm) e3 p3)
theorem cal__law_pick (T : Gb mg) (C : C__law_pick P w K mg base) (D : Dfn K mg "_law_pick" s__law_pick) : C8.Cal P w K mg base 2 "_law_pick" (sp__law_pick K) [] :=
  calD D sc__law_pick bw__law_pick (by rintro Rs R ⟨n, rfl, _⟩; rfl) (fun f cdv A outer s H E hr => der__law_pick T C cdv A outer s H E hr) (by
    rintro Rs R d ⟨ns, rfl, h1, h2, rfl⟩ H0 σ H a Q q
    refine w_ret a (R := InR (· ∈ ns)) (e_op (Ra := LfI ns) (Rb := InR fun r => 0 ≤ r ∧ r < (ns.length : Int)) (e_var rfl) (e_callD List.mem_cons_self (a_cons (e_var rfl) (a_cons (e_lenF (e_var rfl)) a_nil)) ⟨_, rfl, by omega, by omega, rfl⟩) fun x y H ⟨p, o, ex, hs⟩ ⟨i, hi, ey⟩ Q q => ?_) fun v H' a' p => q v H' a'.kp a'.me p
    subst ex
    cases (show y = .int i from ey)
    have hl : i.toNat < ns.length := by omega
    exact ⟨p, _, i, .int ns[i.toNat], rfl, rfl, sql_frz hs, at_of hi.1 (by rw [List.getElem?_map, List.getElem?_eq_getElem hl]; rfl), q _ H (Kp.refl _ _) ⟨ns[i.toNat], List.getElem_mem hl, rfl⟩⟩)
theorem cal__law_mixed (T : Gb mg) (C : C__law_mixed P w K mg base) (D : Dfn K mg "_law_mixed" s__law_mixed) : C8.Cal P w K mg base 2 "_law_mixed" (sp__law_mixed K) [] := by
  obtain ⟨f, fd, F, g⟩ := D.ex
  refine ⟨⟨f, fd, _, [], F.ok sc__law_mixed (fun vs H Q E h => ?_) (fun cdv A outer s H vs Q E hr h => ⟨t__law_mixed K, (der__law_mixed T C cdv A outer s H E hr).nox, ?_⟩), g, F.kp, F.bindsN bw__law_mixed, .nil⟩⟩
  · obtain ⟨d, e, G, ix, rfl, _⟩ := h; rfl
  · obtain ⟨d, e, G, ix, rfl, he, hl, hd, q⟩ := h
    have a := at_start (H := H) (N := N__law_mixed) (Rs := [IsV (.ref d), LfR (ix.map G)]) (vs := [.ref d, e]) (ms := [(d, Dice)]) (d0 := [d]) ⟨rfl, he, trivial⟩ (fun m hm => by
      have e : m = (d, Dice) := by simpa using hm
      subst e; exact hd) (by simp [ads]) rfl
    refine w_seq (w_parLL (Rs := ix.map G) (Ws := []) a ?_ (fun p ws => el_lst a_nil (by simp)) fun pl wl pf wf σ1 H1 a1 => ?_)
    · exact fun σ H a Q q => (e_var (R := LfR (ix.map G)) (i := 1) rfl) σ H a _ fun v H1 a1 k1 ⟨b, xs, o, ev, hs, hp⟩ => ⟨b, xs, by rw [ev], .inl (sql_frz hs), fun l hl => q l xs _ (by rw [del_upd hl]; exact a1) (by rw [del_upd hl]; exact k1) upd_same (by rw [del_upd hl]; exact hp)⟩
    have hlen : EJ ⟨H, [d], []⟩ [some (IsV (.ref d)), some (LfR (ix.map G)), none, some (LsR pl wl (ix.map G)), some (LsR pf wf [])] [(pf, (· = wf)), (pl, (· = wl)), (d, Dice)] (tCB (rLen K) (tCons (tVar 1) tNil)) (IsI (ix.length : Int)) := fun σ H a Q q => (e_var (R := LfR (ix.map G)) (i := 1) rfl) σ H a _ fun v H1 a1 k1 ⟨b, xs, o, ev, hs, hp⟩ => ⟨b, xs, by rw [ev], .inl (sql_frz hs), q _ H1 a1 k1 (by have := hp.len; rw [List.length_map] at this; show V.int _ = V.int _; rw [this])⟩
    refine w_seq (w_forX (ι := (List Nat × List Nat) × (List V × List V)) a1 (ij_rngN (m := ix.length) (a_cons hlen a_nil) rfl (by omega)) (fun i z => (z.1.1 ++ z.1.2).Perm ix ∧ z.1.1.length + i = ix.length ∧ z.1.2.length ≤ i) (fun i z => [some (IsV (.ref d)), some (LfR (ix.map G)), none, some (LsR pl z.2.1 (z.1.1.map G)), some (LsR pf z.2.2 (z.1.2.map G))]) (fun i z => [some (IsV (.ref d)), some (LfR (ix.map G)), some (IsI (i : Int)), some (LsR pl z.2.1 (z.1.1.map G)), some (LsR pf z.2.2 (z.1.2.map G))]) (fun i z => [(pf, (· = z.2.2)), (pl, (· = z.2.1)), (d, Dice)]) (fun c σ H b => ⟨((ix, []), (wl, wf)), ⟨by rw [List.append_nil], rfl, Nat.le_refl _⟩, b.wk (by walk_at "wk")⟩) (fun i z m hm => by cases hm) (fun i z hi hz c => g_name) (fun i z hi hz gg nx' bk' ct' σ H2 b k => ?_) fun z σ H2 hz b => ?_)
    · obtain ⟨⟨xl, xf⟩, ⟨vl, vf⟩⟩ := z
      obtain ⟨hp, hn, hf⟩ := hz
      dsimp only at hp hn hf b
      -- the list that grows, the one that shrinks
      obtain ⟨v4, s4, e4, pf4⟩ := b.sl 4 _ rfl
      subst e4
      obtain ⟨xs4, f4, m4⟩ := b.me (pf, (· = vf)) (by simp)
      cases (show xs4 = vf from f4)
      refine ⟨_, s4, .inl ⟨rfl, _, SqL.of m4⟩, ?_⟩
      obtain ⟨v3, s3, e3, pl3⟩ := b.sl 3 _ rfl
      subst e3
      obtain ⟨xs3, f3, m3⟩ := b.me (pl, (· = vl)) (by simp)
      cases (show xs3 = vl from f3)
      refine ⟨_, s3, .inl ⟨rfl, _, SqL.of m3⟩, ?_⟩
      have hvl : vl.length = xl.length := by have := pl3.len; rwa [List.length_map] at this
      have hvf : vf.length = xf.length := by have := pf4.len; rwa [List.length_map] at this
      have hL : EJ (Ct.add ⟨H, [d], []⟩ gg) [some (IsV (.ref d)), some (LfR (ix.map G)), some (IsI (i : Int)), some (LsR pl vl (xl.map G)), some (LsR pf vf (xf.map G))] [(pf, (· = vf)), (pl, (· = vl)), (d, Dice)] (tCB (rLen K) (tCons (tVar 3) tNil)) (IsI (xl.length : Int)) := by
        have := e_lenL (K := K) (c := Ct.add ⟨H, [d], []⟩ gg) (rs := [some (IsV (.ref d)), some (LfR (ix.map G)), some (IsI (i : Int)), some (LsR pl vl (xl.map G)), some (LsR pf vf (xf.map G))]) (ms := [(pf, (· = vf)), (pl, (· = vl)), (d, Dice)]) (p := pl) (φ := (· = vl)) (n := xl.length) (te := tVar 3) (by simp) ((e_var (R := LsR pl vl (xl.map G)) rfl).weak fun v H h => h.1) (fun xs e => by rw [show xs = vl from e, hvl])
        exact this
      refine (a_cons (e_callD (S := fun Rs R => ∃ n : Int, Rs = [IsI n] ∧ 1 ≤ n ∧ n ≤ 2 ^ 50 ∧ R = InR (fun r => 0 ≤ r ∧ r < n)) (E := E0) (d := d) (by simp) (a_cons (e_var rfl) (a_cons hL a_nil)) ⟨_, rfl, by omega, by omega, rfl⟩) a_nil) σ H2 b _ fun us H3 b3 k3 p3 => ?_
      obtain ⟨u, rfl, r, hr1, eu⟩ := ps1 p3
      cases (show u = .int r from eu)
      obtain ⟨xs3, f3, m3⟩ := b3.me (pl, (· = vl)) (by simp)
      cases (show xs3 = vl from f3)
      have hrl : r.toNat < vl.length := by omega
      refine ⟨pl, vl, r, r.toNat, vl[r.toNat], rfl, rfl, m3, by omega, by omega, seqIndex_of hr1.1 (by omega), List.getElem?_eq_getElem hrl, ?_⟩
      have b4 := At.store (ms1 := [(pf, (· = vf))]) (ms2 := [(d, Dice)]) (φ := (· = vl)) (ψ := (· = vl.eraseIdx r.toNat)) b3 (xs := vl.eraseIdx r.toNat) rfl
      obtain ⟨xs4, f4, m4⟩ := b4.me (pf, (· = vf)) (by simp)
      cases (show xs4 = vf from f4)
      refine ⟨pf, vf, vl[r.toNat], rfl, rfl, m4, small1000 (by omega), ?_⟩
      have b5 := At.store (ms1 := []) (ms2 := [(pl, (· = vl.eraseIdx r.toNat)), (d, Dice)]) (φ := (· = vf)) (ψ := (· = vf ++ [vl[r.toNat]])) b4 (xs := vf ++ [vl[r.toNat]]) rfl
      obtain ⟨v3', s3', e3', pl3'⟩ := b5.sl 3 _ rfl
      have hxl : r.toNat < xl.length := by omega
      obtain ⟨y, ey, py⟩ := pl3'.get (i := r.toNat) (r := G xl[r.toNat]) (by rw [List.getElem?_map, List.getElem?_eq_getElem hxl]; rfl)
      rw [List.getElem?_eq_getElem hrl] at ey
      have ey : vl[r.toNat] = y := Option.some.inj ey
      rw [← ey] at py
      refine k ((xl.eraseIdx r.toNat, xf ++ [xl[r.toNat]]), (vl.eraseIdx r.toNat, vf ++ [vl[r.toNat]])) _ _ ⟨?_, ?_, ?_⟩ ?_
      · dsimp only
        have h1 := perm_erase (l := xl) (i := r.toNat) (List.getElem?_eq_getElem hxl)
        refine List.Perm.trans ?_ hp
        refine List.Perm.trans ?_ (h1.append_right xf)
        rw [← List.append_assoc]
        exact List.perm_append_comm
      · dsimp only
        rw [List.length_eraseIdx, if_pos hxl]; omega
      · dsimp only
        rw [List.length_append]; simp; omega
      · have c1 := b5.re (i := 3) (R' := LsR pl (vl.eraseIdx r.toNat) ((xl.eraseIdx r.toNat).map G)) rfl fun v h => ⟨h.1, by rw [← map_erase]; exact ps_erase h.2 _⟩
        have c2 := c1.re (i := 4) (R' := LsR pf (vf ++ [vl[r.toNat]]) ((xf ++ [xl[r.toNat]]).map G)) rfl fun v h => by
          rw [List.map_append]
          exact lsr_snoc h py
        exact c2.wk (by walk_at "wk")
    · obtain ⟨⟨xl, xf⟩, ⟨vl, vf⟩⟩ := z
      obtain ⟨hp, hn, hf⟩ := hz
      dsimp only at hp hn hf b
      have hx : xl = [] := List.eq_nil_of_length_eq_zero (by omega)
      subst hx
      obtain ⟨v4, s4, e4, pf4⟩ := b.sl 4 _ rfl
      subst e4
      have nd := b.nd
      have hpd : pf ≠ d := fun z => by
        subst z
        have : (pf :: [pl, pf]).Nodup := nd
        simp at this
      have h0 : H pf = none := by
        rcases b.fr pf (by simp [ads]) with z | z
        · exact absurd (by simpa using z) hpd
        · exact z
      have hpl0 : pl ∉ [d] := fun z => by
        have z : pl = d := by simpa using z
        subst z
        have : (pf :: [pl, pl]).Nodup := nd
        simp at this
      obtain ⟨xs, m1, ex, b2⟩ := b.unown h0 (by simpa using hpd)
      cases (show xs = vf from ex)
      have b3 := b2.drop hpl0
      refine ⟨_, s4, q pf vf xf H2 (by simpa using hp) hpd b3.kp m1 (pf4.mono (im_del m1)) ?_⟩
      obtain ⟨xs, f1, f2⟩ := b.me (d, Dice) (by simp)
      exact ⟨xs, f1, f2⟩
end
end K45
namespace K45
open PySem PySem.Spec PyProof.Rows L2
def pl (j : Nat) : List Int := (partsL.getD j ([], 0)).1
def pts : List (Int × Int) := [(1, 0), (0, 1), (1, 1), (1, -1), (2, 1), (1, 3), (3, -2)]
def pt (j : Nat) : Int × Int := pts.getD (j - 5) (0, 0)
abbrev FL (K : PySem.W.Frag) (j : Nat) : Rl := TuI K (pl j)
abbrev FP (K : PySem.W.Frag) (j : Nat) : Rl := TuI K [(pt j).1, (pt j).2]
/-- a parted form and how often its greatest root comes -/
abbrev sp__law_parted_form (K : PySem.W.Frag) : Sp := spD fun Rs R => ∃ g : Nat, Rs = [IsI (g : Int)] ∧ 1 ≤ g ∧ g ≤ 6 ∧
  R = AnyR (fun z : List Int × Nat => (∃ av, PF g z.1 0 z.2 av) ∧ Bd 100 z.1 ∧ z.2 ≤ 6) (fun z => TuR K [TuI K z.1, IsI (z.2 : Int)])
section
variable {c : Ct} {rs : List (Option Rl)} {ms : Ms} {σ : L2.St} {H H' : Hp} {K : PySem.W.Frag} {R R' Ra Rb Rc : Rl} {te ta tb to tv : TE} {tt : TT} {tr : TA} {Rs Ws Rs' : List Rl} {E : XK} {nx : L2.St → Hp → Prop} {rt : VK} {bk ct : L2.St → Hp → Prop}
theorem w_asgIf {g : TG} {b : Bool} (a : At c rs ms σ H) (ht : TJ c rs ms tt b) (h1 : b = true → ∀ H', At c rs ms σ H' → tAsg ta g ⟨nx, rt, bk, ct⟩ σ H') (h2 : b = false → ∀ H', At c rs ms σ H' → tAsg tb g ⟨nx, rt, bk, ct⟩ σ H') : tAsg (tIf tt ta tb) g ⟨nx, rt, bk, ct⟩ σ H :=
  ht σ H a _ fun H1 a1 _ => by
    cases b with
    | true => exact h1 rfl H1 a1
    | false => exact h2 rfl H1 a1
theorem ps_dropLast : ∀ {Rs : List Rl} {ws : List V} {H : Hp}, Ps Rs ws H → Ps Rs.dropLast ws.dropLast H
  | [], [], _, _ => trivial
  | [_], [_], _, _ => trivial
  | r :: s :: rs, w :: x :: ws, _, h => ⟨h.1, ps_dropLast (Rs := s :: rs) (ws := x :: ws) h.2⟩
  | [], _ :: _, _, h => h.elim
  | _ :: _, [], _, h => h.elim
  | [_], _ :: _ :: _, _, h => h.2.elim
  | _ :: _ :: _, [_], _, h => h.2.elim
/-- the last item is taken: its reading -/
theorem x_pop {i : Nat} {p : Addr} {ws : List V} {ms1 ms2 : Ms} {Q : VK} (a : At c rs (ms1 ++ (p, (· = ws)) :: ms2) σ H) (hi : rs[i]? = some (some (LsR p ws Rs))) (hR : Rs[Rs.length - 1]? = some R)
    (k : ∀ v H', At c (rs.set i (some (LsR p ws.dropLast Rs.dropLast))) (ms1 ++ (p, (· = ws.dropLast)) :: ms2) σ H' → R.p v H' → Q v H') : tBM0 K "list" rPop (tVar i) σ H Q := by
  obtain ⟨v, s1, e1, p1⟩ := a.sl i _ hi
  subst e1
  obtain ⟨xs, e2, m2⟩ := a.me (p, (· = ws)) (by simp)
  cases (show xs = ws from e2)
  obtain ⟨y, ey, py⟩ := p1.get hR
  rw [← p1.len] at ey
  have b := At.store (ms1 := ms1) (ms2 := ms2) (φ := (· = ws)) (ψ := (· = ws.dropLast)) a (xs := ws.dropLast) rfl
  have i2 : Im H (upd H p (.lst ws.dropLast)) := fun a o e n => by
    have ne : a ≠ p := fun z => by rw [z, m2] at e; exact n _ (Option.some.inj e).symm
    exact St.of (by rw [upd_ne ne]; exact e)
  exact ⟨_, s1, .inl ⟨rfl, _, SqL.of m2⟩, p, ws, y, rfl, rfl, m2, ey, k y _ (b.re hi fun v h => ⟨h.1, ps_dropLast h.2⟩) (R.mono i2 py)⟩
theorem w_setPop {i j : Nat} {p : Addr} {ws : List V} {ms1 ms2 : Ms} (a : At c rs (ms1 ++ (p, (· = ws)) :: ms2) σ H) (hi : rs[i]? = some (some (LsR p ws Rs))) (hR : Rs[Rs.length - 1]? = some R)
    (k : ∀ σ' H', At c ((rs.set i (some (LsR p ws.dropLast Rs.dropLast))).set j (some R)) (ms1 ++ (p, (· = ws.dropLast)) :: ms2) σ' H' → nx σ' H') : tAsg (tBM0 K "list" rPop (tVar i)) (gName j) ⟨nx, rt, bk, ct⟩ σ H :=
  x_pop a hi hR fun v H' b pv => k _ _ (b.set pv)
end
theorem pl_line : ∀ j, j < 12 → 5 ≤ j → [(pt j).2, 0 - (pt j).1] = pl j := by decide
theorem pl_ok : ∀ j, j < 12 → partsL[j]? = some (pl j, if j < 5 then 2 else 1) := by decide
theorem pl_bd : ∀ j, j < 12 → ∀ x ∈ pl j, x.natAbs < 2 ^ 2 := by decide
theorem pl_len : ∀ j, j < 12 → (pl j).length = if j < 5 then 3 else 2 := by decide
end K45
namespace K45
open PySem PySem.Spec PyProof.Rows L2
local macro_rules | `(tactic| walk_at "ev") => `(tactic| repeat' first
  | exact e_var rfl | exact e_c | exact a_nil | refine a_cons ?_ ?_
  | refine e_opI0 ?_ ?_ | refine e_opI ?_ ?_ ?_ | refine e_eqI ?_ ?_ | refine e_neI ?_ ?_ | refine e_neg ?_
  | refine e_lenI ?_ | refine e_lenR ?_ | refine e_abs ?_ | refine e_max ?_ ?_ | refine e_min ?_ ?_ | refine e_intB ?_ | refine e_intI ?_
  | refine e_chain ?_ ?_ ?_ | refine e_ixI ?_ ?_ ?_ ?_ | refine e_ixR ?_ ?_ ?_ ?_
  | refine e_slHead ?_ ?_ ?_ | refine e_slTail ?_ ?_ ?_
  | refine t_test ?_ | refine t_b ?_ | refine e_ifI ?_ ?_ ?_
  | refine ij_zipT ?_ ?_ | refine ij_tupI ?_ | refine ij_rng ?_ ?_
  | exact g_name | exact g_pair)
local macro_rules | `(tactic| walk_at "evn") => `(tactic| repeat' first
  | exact e_var rfl | exact EJ.any e_c | exact EJ.any (e_var rfl) | exact EJ.anyN (e_var rfl) | refine e_diceC (d := ‹Addr›) List.mem_cons_self ?_ (by decide) | refine e_mulL (φ := fun _ => True) (by decide) ?_ | refine e_mulR (φ := fun _ => True) (by decide) ?_ | exact e_c
  | refine e_a0 ?_ ?_ | refine e_intN ?_)
local macro_rules | `(tactic| walk_at "wk") => `(tactic| repeat' first | exact wk_nil | refine wk_none ?_ | refine wk_some (fun _ _ h => h) ?_)
abbrev N__law_parted_form : List Str := ["_law_dice_here", "_law_degree", "_law_parts", "_law_lines", "_law_turn", "_law_found", "_law_left", "_law_most", "_law_wide", "_law_room", "_law_point_here", "_law_often", "_law_part"]
theorem sc__law_parted_form : FnScope N__law_parted_form ["_law_dice_here", "_law_degree"] (defScope s__law_parted_form) := ⟨rfl, rfl, rfl, by decide +kernel, rfl, by decide +kernel, by decide +kernel⟩
def t__law_parted_form (K : PySem.W.Frag) : TS := (tSeq (tAsg (tCall (sp__law_mixed K) [] E0 (tCons (tVar 0) (tCons (tFrz (tLst (tCons (tTup (tCons (tC (.int 1)) (tCons (tC (.int 0)) (tCons (tC (.int 1)) tNil)))) (tCons (tTup (tCons (tC (.int 1)) (tCons (tC (.int 0)) (tCons (tUn rNegI (tC (.int 2))) tNil)))) (tCons (tTup (tCons (tC (.int 1)) (tCons (tC (.int 1)) (tCons (tC (.int 1)) tNil)))) (tCons (tTup (tCons (tC (.int 1)) (tCons (tC (.int 0)) (tCons (tUn rNegI (tC (.int 3))) tNil)))) (tCons (tTup (tCons (tC (.int 1)) (tCons (tC (.int 1)) (tCons (tUn rNegI (tC (.int 1))) tNil)))) tNil))))))) tNil))) (gName 2))
  (tSeq (tAsg (tLc (iList K (tFrz (tCall (sp__law_mixed K) [] E0 (tCons (tVar 0) (tCons (tFrz (tLst (tCons (tTup (tCons (tC (.int 1)) (tCons (tC (.int 0)) tNil))) (tCons (tTup (tCons (tC (.int 0)) (tCons (tC (.int 1)) tNil))) (tCons (tTup (tCons (tC (.int 1)) (tCons (tC (.int 1)) tNil))) (tCons (tTup (tCons (tC (.int 1)) (tCons (tUn rNegI (tC (.int 1))) tNil))) (tCons (tTup (tCons (tC (.int 2)) (tCons (tC (.int 1)) tNil))) (tCons (tTup (tCons (tC (.int 1)) (tCons (tC (.int 3)) tNil))) (tCons (tTup (tCons (tC (.int 3)) (tCons (tUn rNegI (tC (.int 2))) tNil))) tNil))))))))) tNil))))) (gName 10) tYes (tCall (sp__law_line K) [] E0 (tCons (tVar 10) tNil)) [10]) (gName 3))
  (tSeq (tPar3 5 6 7 (tCons (tTup (tCons (tOp rMulI (tOp rAddI (tC (.int 1)) (tCall (sp__law_roll K) [] E0 (tCons (tVar 0) (tCons (tC (.int 3)) tNil)))) (tCall (sp__law_pick K) [] E0 (tCons (tVar 0) (tCons (tFrz (tLst (tCons (tC (.int 1)) (tCons (tUn rNegI (tC (.int 1))) tNil)))) tNil)))) tNil)) (tCons (tVar 1) (tCons (tC (.int 0)) tNil))))
  (tSeq (tFor (iRng1 (tCons (tC (.int 5)) tNil)) (gName 4) (tSeq (tAsg (tOp rAddI (tC (.int 1)) (tCB rInt1 (tCons (tOp rEq (tCall (sp__law_roll K) [] E0 (tCons (tVar 0) (tCons (tC (.int 3)) tNil))) (tC (.int 0))) tNil))) (gName 8))
  (tSeq (tAsg (tOp rDivI (tVar 6) (tVar 8)) (gName 9))
  (tIfS (tTest (tOp rGtB (tVar 9) (tC (.int 0)))) (tSeq (tAsg (tIf (tTest (tOp rGtB (tVar 4) (tC (.int 3)))) (tVar 9) (tOp rAddI (tC (.int 1)) (tCall (sp__law_roll K) [] E0 (tCons (tVar 0) (tCons (tVar 9) tNil))))) (gName 11))
  (tSeq (tAsg (tIf (tTest (tOp rEq (tVar 8) (tC (.int 2)))) (tBM0 K "list" rPop (tVar 2)) (tBM0 K "list" rPop (tVar 3))) (gName 12))
  (tPar3 5 6 7 (tCons (tCall (sp__law_product K) [] E0 (tCons (tVar 5) (tCons (tCall (sp__law_power K) [] E0 (tCons (tVar 12) (tCons (tVar 11) tNil))) tNil))) (tCons (tOp rSubI (tVar 6) (tOp rMulI (tVar 8) (tVar 11))) (tCons (tCB rMax2 (tCons (tVar 7) (tCons (tVar 11) tNil))) tNil)))))) tNext))))
  (tSeq (tIfS (tTest (tOp rGtB (tVar 6) (tC (.int 0)))) (tPar 5 7 (tCons (tCall (sp__law_product K) [] E0 (tCons (tVar 5) (tCons (tCall (sp__law_power K) [] E0 (tCons (tBM0 K "list" rPop (tVar 3)) (tCons (tVar 6) tNil))) tNil))) (tCons (tCB rMax2 (tCons (tVar 7) (tCons (tVar 6) tNil))) tNil))) tNext)
  (tRet (tTup (tCons (tVar 5) (tCons (tVar 7) tNil)))))))))
structure C__law_parted_form (P : Program) (w : World) (K : PySem.W.Frag) (mg : Str → Option Value) (base : Heap) : Prop where
  _law_mixed_ : C8.Cal P w K mg base 2 "_law_mixed" (sp__law_mixed K) []
  _law_line_ : C8.Cal P w K mg base 1 "_law_line" (sp__law_line K) []
  _law_roll_ : C8.Cal P w K mg base 1 "_law_roll" (sp__law_roll K) []
  _law_pick_ : C8.Cal P w K mg base 2 "_law_pick" (sp__law_pick K) []
  _law_power_ : C8.Cal P w K mg base 2 "_law_power" (sp__law_power K) []
  _law_product_ : C8.Cal P w K mg base 1 "_law_product" (sp__law_product K) []
theorem der__law_parted_form {P : Program} {w : World} {K : PySem.W.Frag} {mg : Str → Option Value} {base : Heap} {f : Addr} (T : Gb mg) (C : C__law_parted_form P w K mg base) (cdv : Value) (A : Around) (outer : List Env) (s : Shared) (H : Hp) (E : XK) (hr : Room 2 (A.deeper (envOfC "_law_parted_form" (defScope s__law_parted_form) s.heap.objs.size f cdv))) :
    PSs (cxOf CX0 P w K mg base N__law_parted_form "_law_parted_form" (defScope s__law_parted_form) f cdv A outer s H E).nox (defBody s__law_parted_form) (t__law_parted_form K) :=
  (pss_cons (ps_set (i := 2) sc__law_parted_form.nd rfl (.inl rfl) (C8.pe_c C._law_mixed_ hr (by decide) (by rfl) (pa_cons (pv 0) (pa_cons (pe_frz (pe_lst (pa_cons (pe_tup (pa_cons pe_int (pa_cons pe_int (pa_cons pe_int pa_nil)))) (pa_cons (pe_tup (pa_cons pe_int (pa_cons pe_int (pa_cons (pe_un un_neg pe_int) pa_nil)))) (pa_cons (pe_tup (pa_cons pe_int (pa_cons pe_int (pa_cons pe_int pa_nil)))) (pa_cons (pe_tup (pa_cons pe_int (pa_cons pe_int (pa_cons (pe_un un_neg pe_int) pa_nil)))) (pa_cons (pe_tup (pa_cons pe_int (pa_cons pe_int (pa_cons (pe_un un_neg pe_int) pa_nil)))) pa_nil))))))) pa_nil))))
      (pss_cons (ps_setLc (i := 3) (own := [("_law_point_here", 10)]) rfl sc__law_parted_form.nd rfl rfl (sw_true rfl rfl rfl (by decide +kernel)) (pi_list (pe_frz (C8.pe_c C._law_mixed_ hr (by decide) (by rfl) (pa_cons (pv 0) (pa_cons (pe_frz (pe_lst (pa_cons (pe_tup (pa_cons pe_int (pa_cons pe_int pa_nil))) (pa_cons (pe_tup (pa_cons pe_int (pa_cons pe_int pa_nil))) (pa_cons (pe_tup (pa_cons pe_int (pa_cons pe_int pa_nil))) (pa_cons (pe_tup (pa_cons pe_int (pa_cons (pe_un un_neg pe_int) pa_nil))) (pa_cons (pe_tup (pa_cons pe_int (pa_cons pe_int pa_nil))) (pa_cons (pe_tup (pa_cons pe_int (pa_cons pe_int pa_nil))) (pa_cons (pe_tup (pa_cons pe_int (pa_cons (pe_un un_neg pe_int) pa_nil))) pa_nil))))))))) pa_nil))))) (blkOk_by (own := [("_law_point_here", 10)]) (N := N__law_parted_form) (sc := defScope s__law_parted_form) (by decide +kernel)) (fun _ _ _ _ _ => (pg_name (i := 10) sc__law_parted_form.nd rfl (Or.inl rfl))) (fun _ _ _ _ _ => pts_nil) (fun _ _ _ _ _ => (C8.pe_c C._law_line_ hr (by decide) (by rfl) (pa_cons (pv 10) pa_nil))))
      (pss_cons (ps_par3 (i := 5) (j := 6) (l := 7) rfl sc__law_parted_form.nd rfl rfl rfl (by decide) (by decide) (by decide) rfl rfl rfl (pa_cons (pe_tup (pa_cons (pe_op op_mul (pe_op op_add pe_int (C8.pe_c C._law_roll_ hr (by decide) (by rfl) (pa_cons (pv 0) (pa_cons pe_int pa_nil)))) (C8.pe_c C._law_pick_ hr (by decide) (by rfl) (pa_cons (pv 0) (pa_cons (pe_frz (pe_lst (pa_cons pe_int (pa_cons (pe_un un_neg pe_int) pa_nil)))) pa_nil)))) pa_nil)) (pa_cons (pv 1) (pa_cons pe_int pa_nil))) rfl)
      (pss_cons (ps_for PassesOwn.never rfl (pi_range1 rfl T.range_ (pa_cons pe_int pa_nil)) (pg_name (i := 4) sc__law_parted_form.nd rfl (Or.inl rfl)) (pss_cons (ps_set (i := 8) sc__law_parted_form.nd rfl (.inl rfl) (pe_op op_add pe_int (pe_callTy call_int1 (by rfl) T.int_ (by decide +kernel) (pa_cons (pe_cmpR op_eq (C8.pe_c C._law_roll_ hr (by decide) (by rfl) (pa_cons (pv 0) (pa_cons pe_int pa_nil))) pe_int (nomark _)) pa_nil))))
      (pss_cons (ps_set (i := 9) sc__law_parted_form.nd rfl (.inl rfl) (pe_op op_fdiv (pv 6) (pv 8)))
      (pss_one (ps_if (pt_cmpR op_gt (pv 9) pe_int (nomark _)) (pss_cons (ps_set (i := 11) sc__law_parted_form.nd rfl (.inl rfl) (pe_ifExp (pt_cmpR op_gt (pv 4) pe_int (nomark _)) (pv 9) (pe_op op_add pe_int (C8.pe_c C._law_roll_ hr (by decide) (by rfl) (pa_cons (pv 0) (pa_cons (pv 9) pa_nil))))))
      (pss_cons (ps_set (i := 12) sc__law_parted_form.nd rfl (.inl rfl) (pe_ifExp (pt_cmpR op_eq (pv 8) pe_int (nomark _)) (pe_bm0 PySem.F.plainAttrs_list PySem.F.slot_list_pop PySem.F.type_list_pop mt_pop (pv 2)) (pe_bm0 PySem.F.plainAttrs_list PySem.F.slot_list_pop PySem.F.type_list_pop mt_pop (pv 3))))
      (pss_one (ps_par3 (i := 5) (j := 6) (l := 7) rfl sc__law_parted_form.nd rfl rfl rfl (by decide) (by decide) (by decide) rfl rfl rfl (pa_cons (C8.pe_c C._law_product_ hr (by decide) (by rfl) (pa_cons (pv 5) (pa_cons (C8.pe_c C._law_power_ hr (by decide) (by rfl) (pa_cons (pv 12) (pa_cons (pv 11) pa_nil))) pa_nil))) (pa_cons (pe_op op_sub (pv 6) (pe_op op_mul (pv 8) (pv 11))) (pa_cons (pe_callB (call_max2 rfl) (by rfl) T.max_ (by decide +kernel) (pa_cons (pv 7) (pa_cons (pv 11) pa_nil))) pa_nil))) rfl)))) pss_nil)))))
      (pss_cons (ps_if (pt_cmpR op_gt (pv 6) pe_int (nomark _)) (pss_one (ps_par (i := 5) (j := 7) rfl sc__law_parted_form.nd rfl rfl (by decide) rfl rfl (pa_cons (C8.pe_c C._law_product_ hr (by decide) (by rfl) (pa_cons (pv 5) (pa_cons (C8.pe_c C._law_power_ hr (by decide) (by rfl) (pa_cons (pe_bm0 PySem.F.plainAttrs_list PySem.F.slot_list_pop PySem.F.type_list_pop mt_pop (pv 3)) (pa_cons (pv 6) pa_nil))) pa_nil))) (pa_cons (pe_callB (call_max2 rfl) (by rfl) T.max_ (by decide +kernel) (pa_cons (pv 7) (pa_cons (pv 6) pa_nil))) pa_nil)) rfl)) pss_nil)
      (pss_one (ps_ret (pe_tup (pa_cons (pv 5) (pa_cons (pv 7) pa_nil))))))))))
theorem bw__law_parted_form : BindsW "_law_parted_form" s__law_parted_form ["_law_dice_here", "_law_degree"] := fun kV doc pm an cdv ct us h => by
  match us, h with
  | [_, _], _ => rfl
theorem dropLast_map {α β : Type} (f : α → β) : ∀ l : List α, (l.map f).dropLast = l.dropLast.map f
  | [] => rfl
  | [_] => rfl
  | x :: y :: l => by
    show f x :: ((y :: l).map f).dropLast = f x :: (y :: l).dropLast.map f
    rw [dropLast_map f (y :: l)]
theorem split_last {α : Type} {l : List α} (h : 1 ≤ l.length) : ∃ i x, l = i ++ [x] ∧ l.dropLast = i := by
  have hn : l ≠ [] := fun e => by rw [e] at h; simp at h
  exact ⟨l.dropLast, l.getLast hn, (List.dropLast_concat_getLast hn).symm, rfl⟩
theorem last_map {α β : Type} (f : α → β) (i : List α) (x : α) : ((i ++ [x]).map f)[((i ++ [x]).map f).length - 1]? = some (f x) := by
  simp
structure LI (g : Nat) (n : Nat) (f : List Int) (left most : Nat) (qx lx : List Nat) : Prop where
  pf : PF g f left most (qx ++ lx)
  q5 : ∀ j ∈ qx, j < 5
  l5 : ∀ j ∈ lx, 5 ≤ j ∧ j < 12
  qn : 5 ≤ qx.length + n
  ln : 7 ≤ lx.length + n
  lg : left ≤ g
  mg : most ≤ g
  bd : Bd (3 + 8 * (g - left) + 7 * n) f
theorem LI.skip {g n : Nat} {f : List Int} {left most : Nat} {qx lx : List Nat} (h : LI g n f left most qx lx) : LI g (n + 1) f left most qx lx :=
  ⟨h.pf, h.q5, h.l5, by have := h.qn; omega, by have := h.ln; omega, h.lg, h.mg, h.bd.mono (by omega)⟩
theorem LI.part {g n : Nat} {f : List Int} {left most j o wd : Nat} {qx lx av : List Nat} (h : PF g f left most av) (hj : j ∈ av) (hj12 : j < 12) (hwd : wd = if j < 5 then 2 else 1) (hav : ∀ i ∈ qx ++ lx, i ∈ av ∧ i ≠ j) (hnd : (qx ++ lx).Nodup) (ho : wd * o ≤ left)
    (q5 : ∀ j ∈ qx, j < 5) (l5 : ∀ j ∈ lx, 5 ≤ j ∧ j < 12) (qn : 5 ≤ qx.length + (n + 1)) (ln : 7 ≤ lx.length + (n + 1)) (lg : left ≤ g) (g6 : g ≤ 6) (mg : most ≤ g) (bd : Bd (3 + 8 * (g - left) + 7 * n) f) :
    LI g (n + 1) (prod f (powL (pl j) o)) (left - wd * o) (Nat.max most o) qx lx := by
  have hp := pl_ok j hj12
  rw [← hwd] at hp
  have how : o ≤ wd * o := by rw [hwd]; split <;> omega
  have hpl : 1 ≤ (pl j).length ∧ (pl j).length ≤ 3 := by rw [pl_len j hj12]; split <;> omega
  have hb : Bd 2 (pl j) := Bd.of (pl_bd j hj12)
  have hl2 : o * ((pl j).length - 1) ≤ 6 * 2 := Nat.mul_le_mul (by omega) (by omega)
  have hf := h.len
  have hpw := bd_powL hb hpl.1 o (by omega)
  have hpwl := powL_length (a := pl j) hpl.1 o
  refine ⟨h.step (p := (pl j, wd)) hp hj hav hnd ho, q5, l5, qn, ln, by omega, ?_, ?_⟩
  · show max most o ≤ g; omega
  · exact (bd_prod bd hpw (by omega)).mono (by omega)
section
variable {P : Program} {w : World} {K : PySem.W.Frag} {mg : Str → Option Value} {base : Heap}
theorem cal__law_parted_form (T : Gb mg) (C : C__law_parted_form P w K mg base) (D : Dfn K mg "_law_parted_form" s__law_parted_form) : C8.Cal P w K mg base 3 "_law_parted_form" (sp__law_parted_form K) [] :=
  calD D sc__law_parted_form bw__law_parted_form (by rintro Rs R ⟨n, rfl, _⟩; rfl) (fun f cdv A outer s H E hr => der__law_parted_form T C cdv A outer s H E hr) (by
    rintro Rs R d ⟨g, rfl, hg1, hg6, rfl⟩ H0 σ H a Q q
    have m0 : ∀ {ms : Ms}, (d, Dice) ∈ (d, Dice) :: ms := List.mem_cons_self
    have m1 : ∀ {x} {ms : Ms}, (d, Dice) ∈ x :: (d, Dice) :: ms := List.mem_cons_of_mem _ List.mem_cons_self
    have m2 : ∀ {x y} {ms : Ms}, (d, Dice) ∈ x :: y :: (d, Dice) :: ms := List.mem_cons_of_mem _ (List.mem_cons_of_mem _ List.mem_cons_self)
    have t3 : ∀ {c : Ct} {rs : List (Option Rl)} {ms : Ms} {x y z : Int} {ta tb tc : TE}, EJ c rs ms ta (IsI x) → EJ c rs ms tb (IsI y) → EJ c rs ms tc (IsI z) → EJ c rs ms (tTup (tCons ta (tCons tb (tCons tc tNil)))) (TuI K [x, y, z]) := fun h1 h2 h3 => e_tupI (ns := [_, _, _]) (a_cons h1 (a_cons h2 (a_cons h3 a_nil))) (by simp)
    -- the squares, the lines
    refine w_seq (w_setLX a (elx_mixed (F := FL K) (ix := [0, 1, 2, 3, 4]) m0 (a_cons (e_var rfl) (a_cons (R := LfR ([0, 1, 2, 3, 4].map (FL K))) (e_frz (el_lst (a_cons (t3 e_c e_c e_c) (a_cons (t3 e_c e_c (e_neg e_c)) (a_cons (t3 e_c e_c e_c) (a_cons (t3 e_c e_c (e_neg e_c)) (a_cons (t3 e_c e_c (e_neg e_c)) a_nil))))) (by simp))) a_nil)) (by decide)) fun qx hqx pq wq σ1 H1 a1 => ?_)
    refine w_seq (w_setLX (i := 3) (χ := fun jx : List Nat => jx.Perm [5, 6, 7, 8, 9, 10, 11]) (F := fun jx => (List.range jx.length).map fun i => FL K (jx.getD i 0)) a1 (fun σ H a Q q => elx_lc (n := fun jx => ((jx.map (FP K)).length)) (F := fun jx i => FL K (jx.getD i 0)) (vs := [10]) (ijx_listFR (elx_frz (elx_mixed (F := FP K) (ix := [5, 6, 7, 8, 9, 10, 11]) m1 (a_cons (e_var rfl) (a_cons (R := LfR ([5, 6, 7, 8, 9, 10, 11].map (FP K))) (e_frz (el_lst (a_cons (e_tup2 (K := K) e_c e_c) (a_cons (e_tup2 (K := K) e_c e_c) (a_cons (e_tup2 (K := K) e_c e_c) (a_cons (e_tup2 (K := K) e_c (e_neg e_c)) (a_cons (e_tup2 (K := K) e_c e_c) (a_cons (e_tup2 (K := K) e_c e_c) (a_cons (e_tup2 (K := K) e_c (e_neg e_c)) a_nil))))))) (by simp))) a_nil)) (by decide)))) (fun z hz => by rw [List.length_map, hz.length_eq]; decide) (fun z hz i hi c ms => g_name) (fun z hz i hi x D acc => by
      have hi : i < z.length := by rw [List.length_map] at hi; exact hi
      have hm : z.getD i 0 = z[i] := by simp [hi]
      have hj : z[i] ∈ [5, 6, 7, 8, 9, 10, 11] := hz.mem_iff.mp (List.getElem_mem hi)
      have hj : 5 ≤ z[i] ∧ z[i] < 12 := by
        simp only [List.mem_cons, List.not_mem_nil, or_false] at hj
        omega
      refine e_call (a_cons (e_var ?_) a_nil) ⟨(pt z[i]).1, (pt z[i]).2, rfl, ?_⟩
      · show some (some (((z.map (FP K))[i]?).getD (IsV .non))) = _
        rw [List.getElem?_map, List.getElem?_eq_getElem hi]; rfl
      · rw [hm, FL, ← pl_line _ hj.2 hj.1]) σ H a Q fun z hz p xs H' a' k' e' r => q z hz p xs H' a' k' e' (by dsimp only at r; rw [List.length_map] at r; exact r)) fun lx hlx pL wL σ2 H2 a2 => ?_)
    have hLm : (List.range lx.length).map (fun i => FL K (lx.getD i 0)) = lx.map (FL K) := by
      refine List.ext_getElem (by simp) fun i h1 h2 => ?_
      have : i < lx.length := by simpa using h2
      simp [this]
    rw [hLm] at a2
    -- what is found first
    refine w_seq (w_par3 (R := AnyR (fun x : Int => x ≠ 0 ∧ x.natAbs < 2 ^ 2) (fun x => TuI K [x])) a2 (a_cons ((e_tup (K := K) (a_cons (e_opN (C := CMul) (φ := fun r => 1 ≤ r ∧ r ≤ 3) (ψ := fun r => r ∈ [(1 : Int), -1]) (χ := fun x => x ≠ 0 ∧ x.natAbs < 2 ^ 2) (e_opN0 (g := fun i j => i + j) (φ := (· = 1)) (ψ := fun r => 0 ≤ r ∧ r < 3) (EJ.one e_c) (e_callD m2 (a_cons (e_var rfl) (a_cons e_c a_nil)) ⟨3, rfl, by decide, by decide, rfl⟩) (fun i j h1 h2 => by omega)) (e_callD m2 (a_cons (e_var rfl) (a_cons (e_frzI (ns := [1, -1]) (el_lst (a_cons e_c (a_cons (e_neg e_c) a_nil)) (by simp))) a_nil)) ⟨[1, -1], rfl, by decide, by decide, rfl⟩) (fun i j h1 h2 => by
        have h2 : j = 1 ∨ j = -1 := by simpa using h2
        rcases h2 with rfl | rfl
        · exact ⟨.inl (by omega), by omega, by show _ < 4; omega⟩
        · exact ⟨.inl (by omega), by omega, by show _ < 4; omega⟩)) a_nil) (by simp)).weak fun v H h => by
        obtain ⟨b, xs, ev, hs, hp⟩ := h
        obtain ⟨y, rfl, x, hx, ey⟩ := ps1 hp
        cases (show y = .int x from ey)
        exact ⟨x, hx, b, ev, hs⟩) (a_cons (e_var rfl) (a_cons e_c a_nil))) fun σ3 H3 a3 => ?_)
    obtain ⟨x0, ⟨hx0, hx0b⟩, a4⟩ := a3.openA (i := 5) rfl
    have q5 : ∀ j ∈ qx, j < 5 := fun j hj => by
      have := hqx.mem_iff.mp hj
      simp only [List.mem_cons, List.not_mem_nil, or_false] at this
      omega
    have l5 : ∀ j ∈ lx, 5 ≤ j ∧ j < 12 := fun j hj => by
      have := hlx.mem_iff.mp hj
      simp only [List.mem_cons, List.not_mem_nil, or_false] at this
      omega
    have nd0 : (qx ++ lx).Nodup := by
      have h := (hqx.append hlx).nodup_iff.mpr (by decide)
      exact h
    have L0 : LI g 0 [x0] g 0 qx lx := ⟨PF.start hx0 nd0 (fun i hi => by
      rcases List.mem_append.mp hi with h | h
      · have := q5 i h; omega
      · exact (l5 i h).2), q5, l5, by rw [hqx.length_eq]; decide, by rw [hlx.length_eq]; decide, Nat.le_refl _, Nat.zero_le _, Bd.of fun x hx => by
        have : x = x0 := by simpa using hx
        subst this
        exact Nat.lt_of_lt_of_le hx0b (Nat.pow_le_pow_right (by decide) (by omega))⟩
    -- the loop
    let ι := (List Int × Nat × Nat) × ((List Nat × List V) × (List Nat × List V))
    refine w_seq (w_forX (ι := ι) a4 (ij_rngN (n := 5) (m := 5) (a_cons e_c a_nil) rfl (by omega)) (fun i z => LI g i z.1.1 z.1.2.1 z.1.2.2 z.2.1.1 z.2.2.1)
      (fun i z => [some (IsV (.ref d)), some (IsI (g : Int)), some (LsR pq z.2.1.2 (z.2.1.1.map (FL K))), some (LsR pL z.2.2.2 (z.2.2.1.map (FL K))), none, some (TuI K z.1.1), some (IsI (z.1.2.1 : Int)), some (IsI (z.1.2.2 : Int)), none, none, none, none, none])
      (fun i z => [some (IsV (.ref d)), some (IsI (g : Int)), some (LsR pq z.2.1.2 (z.2.1.1.map (FL K))), some (LsR pL z.2.2.2 (z.2.2.1.map (FL K))), some (IsI (i : Int)), some (TuI K z.1.1), some (IsI (z.1.2.1 : Int)), some (IsI (z.1.2.2 : Int)), none, none, none, none, none])
      (fun i z => [(pL, (· = z.2.2.2)), (pq, (· = z.2.1.2)), (d, Dice)]) (fun c σ H b => ⟨(([x0], g, 0), ((qx, wq), (lx, wL))), L0, b.wk (by walk_at "wk")⟩) (fun i z m hm => by cases hm) (fun i z hi hz c => g_name) (fun i z hi hz gg nx' bk' ct' σ H b k => ?_) (fun z σ H hz b => ?_))
    · obtain ⟨⟨f, left, most⟩, ⟨⟨qx, wq⟩, ⟨lx, wL⟩⟩⟩ := z
      dsimp only at hz b
      have hlg := hz.lg
      refine w_seq (w_setA (φ := fun w : Int => w = 1 ∨ w = 2) (F := IsI) b (e_opN0 (g := fun i j => i + j) (φ := (· = 1)) (ψ := fun r => r = 0 ∨ r = 1) (χ := fun w => w = 1 ∨ w = 2) (EJ.one e_c) (e_intBN (e_eqN (φ := fun r => 0 ≤ r ∧ r < 3) (ψ := (· = 0)) (e_callD m2 (a_cons (e_var rfl) (a_cons e_c a_nil)) ⟨3, rfl, by decide, by decide, rfl⟩) (EJ.one e_c))) (fun i j h1 h2 => by omega)) fun wd hwd σ1 H1 b1 => ?_)
      obtain ⟨wn, ewn, hwn⟩ : ∃ wn : Nat, wd = (wn : Int) ∧ (wn = 1 ∨ wn = 2) := ⟨wd.toNat, by omega, by omega⟩
      subst ewn
      have hdiv : ((left : Int) / (wn : Int)) = ((left / wn : Nat) : Int) := rfl
      refine w_seq (w_set (R := IsI ((left / wn : Nat) : Int)) b1 (hdiv ▸ e_opI (e_var rfl) (e_var rfl) ⟨by omega, by omega⟩) fun σ2 H2 b2 => ?_)
      refine w_if b2 (t_test (e_opI0 (e_var rfl) e_c)) (fun hb H3 b3 => ?_) (fun hb H3 b3 => w_next (k ((f, left, most), ((qx, wq), (lx, wL))) _ _ hz.skip (b3.wk (by walk_at "wk"))))
      have hroom : 1 ≤ left / wn := by have := of_decide_eq_true hb; omega
      have hmul : wn * (left / wn) ≤ left := Nat.mul_div_le left wn
      have hdl : ((left / wn : Nat) : Int) ≤ (left : Int) := Int.ofNat_le.mpr (Nat.div_le_self left wn)
      have hd1 : (1 : Int) ≤ ((left / wn : Nat) : Int) := Int.ofNat_le.mpr hroom
      refine w_seq (w_setA (φ := fun o : Int => 1 ≤ o ∧ o ≤ ((left / wn : Nat) : Int)) (F := IsI) b3 (e_if (b := decide ((3 : Int) < (i : Int))) (t_test (e_opI0 (e_var rfl) e_c)) (fun _ => (e_var rfl).weak fun v H h => ⟨_, ⟨by omega, by omega⟩, h⟩) fun _ => e_opN0 (g := fun i j => i + j) (φ := (· = 1)) (ψ := fun r => 0 ≤ r ∧ r < ((left / wn : Nat) : Int)) (EJ.one e_c) (e_callD m2 (a_cons (e_var rfl) (a_cons (e_var rfl) a_nil)) ⟨_, rfl, by omega, by omega, rfl⟩) (fun i j h1 h2 => by omega)) fun o ho σ4 H4 b4 => ?_)
      obtain ⟨on, rfl⟩ := Int.eq_ofNat_of_zero_le (by omega : 0 ≤ o)
      have hon : wn * on ≤ left := Nat.le_trans (Nat.mul_le_mul_left wn (by omega)) hmul
      have hwo : ((left : Int) - (wn : Int) * (on : Int)) = ((left - wn * on : Nat) : Int) := by
        rw [Int.natCast_sub hon, Int.natCast_mul]
      have hmx : (if (on : Int) > (most : Int) then (on : Int) else (most : Int)) = ((Nat.max most on : Nat) : Int) := by
        show _ = ((max most on : Nat) : Int)
        split <;> omega
      have on6 : on ≤ 6 := by
        rcases hwn with e | e <;> rw [e] at hon <;> omega
      -- the part j is at hand
      have fin : ∀ (j : Nat) (qx' lx' : List Nat) (wq' wL' : List V), j ∈ qx ++ lx → j < 12 → wn = (if j < 5 then 2 else 1) → (∀ i ∈ qx' ++ lx', i ∈ qx ++ lx ∧ i ≠ j) → (qx' ++ lx').Nodup → (∀ j ∈ qx', j < 5) → (∀ j ∈ lx', 5 ≤ j ∧ j < 12) → 5 ≤ qx'.length + (i + 1) → 7 ≤ lx'.length + (i + 1) →
          ∀ σ5 H5, At (Ct.add ⟨H0, [d], []⟩ gg) [some (IsV (.ref d)), some (IsI (g : Int)), some (LsR pq wq' (qx'.map (FL K))), some (LsR pL wL' (lx'.map (FL K))), some (IsI (i : Int)), some (TuI K f), some (IsI (left : Int)), some (IsI (most : Int)), some (IsI (wn : Int)), some (IsI ((left / wn : Nat) : Int)), none, some (IsI (on : Int)), some (FL K j)] [(pL, (· = wL')), (pq, (· = wq')), (d, Dice)] σ5 H5 →
          tPar3 5 6 7 (tCons (tCall (sp__law_product K) [] E0 (tCons (tVar 5) (tCons (tCall (sp__law_power K) [] E0 (tCons (tVar 12) (tCons (tVar 11) tNil))) tNil))) (tCons (tOp rSubI (tVar 6) (tOp rMulI (tVar 8) (tVar 11))) (tCons (tCB rMax2 (tCons (tVar 7) (tCons (tVar 11) tNil))) tNil))) ⟨nx', Q, bk', ct'⟩ σ5 H5 := by
        intro j qx' lx' wq' wL' hj hj12 hwj hav hnd hq5 hl5 hqn hln σ5 H5 b5
        have L1 := LI.part (n := i) (o := on) (wd := wn) hz.pf hj hj12 hwj hav hnd hon hq5 hl5 hqn hln hlg hg6 hz.mg hz.bd
        have hpl : 1 ≤ (pl j).length ∧ (pl j).length ≤ 3 := by rw [pl_len j hj12]; split <;> omega
        have hpb : Bd 2 (pl j) := Bd.of (pl_bd j hj12)
        have hl2 : on * ((pl j).length - 1) ≤ 6 * 2 := Nat.mul_le_mul on6 (by omega)
        have hpw := bd_powL hpb hpl.1 on (by omega)
        have hpwl := powL_length (a := pl j) hpl.1 on
        have hfl := hz.pf.len
        refine w_par3 b5 (a_cons (e_call (a_cons (e_var rfl) (a_cons (e_call (a_cons (e_var rfl) (a_cons (e_var rfl) a_nil)) ⟨pl j, on, rfl, hpl.1, hpl.2, on6, hpb.mono (by omega), rfl⟩) a_nil)) ⟨f, powL (pl j) on, rfl, ?_, ?_, ?_, ?_, ?_, ?_, rfl⟩) (a_cons (R := IsI ((left - wn * on : Nat) : Int)) (hwo ▸ e_opI0 (e_var rfl) (e_opI (e_var rfl) (e_var rfl) (.inl (by omega)))) (a_cons (R := IsI ((Nat.max most on : Nat) : Int)) (hmx ▸ e_max (e_var rfl) (e_var rfl)) a_nil))) fun σ6 H6 b6 => k ((prod f (powL (pl j) on), left - wn * on, Nat.max most on), ((qx', wq'), (lx', wL'))) σ6 H6 L1 (b6.wk (by walk_at "wk"))
        · omega
        · omega
        · omega
        · omega
        · exact hz.bd.mono (by omega)
        · exact hpw.mono (by omega)
      have hndq := List.nodup_append.mp hz.pf.nd
      refine w_seq (w_asgIf (b := decide ((wn : Int) = 2)) b4 (t_test (e_eqI (e_var rfl) e_c)) (fun hb2 H5 b5 => ?_) (fun hb2 H5 b5 => ?_))
      · have e2 : wn = 2 := by have := of_decide_eq_true hb2; omega
        have hqn := hz.qn
        have hln := hz.ln
        obtain ⟨qi, j, eq, edl⟩ := split_last (l := qx) (by omega)
        refine w_setPop (i := 2) (j := 12) (p := pq) (ws := wq) (ms1 := [(pL, (· = wL))]) (ms2 := [(d, Dice)]) (Rs := qx.map (FL K)) (R := FL K j) b5 rfl (by rw [eq]; exact last_map _ _ _) fun σ6 H6 b6 => ?_
        rw [dropLast_map, edl] at b6
        refine fin j qi lx _ _ ?_ ?_ ?_ ?_ ?_ ?_ hz.l5 ?_ (by omega) σ6 H6 b6
        · rw [eq]; simp
        · have := hz.q5 j (by rw [eq]; simp); omega
        · rw [if_pos (hz.q5 j (by rw [eq]; simp)), e2]
        · intro x hx
          have nq := hndq.1
          rw [eq] at nq
          rcases List.mem_append.mp hx with h | h
          · refine ⟨by rw [eq]; simp [h], fun e => ?_⟩
            have := (List.nodup_append.mp nq).2.2 x h j (by simp)
            exact this e
          · refine ⟨by simp [h], fun e => ?_⟩
            have h1 := hz.l5 x h
            have h2 := hz.q5 j (by rw [eq]; simp)
            omega
        · have n := hz.pf.nd
          rw [eq, List.append_assoc] at n
          have n2 := List.nodup_append.mp n
          refine List.nodup_append.mpr ⟨n2.1, (List.nodup_cons.mp n2.2.1).2, fun x hx y hy => n2.2.2 x hx y (List.mem_cons_of_mem _ hy)⟩
        · exact fun x hx => hz.q5 x (by rw [eq]; simp [hx])
        · rw [eq, List.length_append] at hqn; simp at hqn; omega
      · have e1 : wn = 1 := by have := of_decide_eq_false hb2; omega
        have hqn := hz.qn
        have hln := hz.ln
        obtain ⟨li, j, eq, edl⟩ := split_last (l := lx) (by omega)
        have hj := hz.l5 j (by rw [eq]; simp)
        refine w_setPop (i := 3) (j := 12) (p := pL) (ws := wL) (ms1 := []) (ms2 := [(pq, (· = wq)), (d, Dice)]) (Rs := lx.map (FL K)) (R := FL K j) b5 rfl (by rw [eq]; exact last_map _ _ _) fun σ6 H6 b6 => ?_
        rw [dropLast_map, edl] at b6
        refine fin j qx li _ _ ?_ hj.2 ?_ ?_ ?_ hz.q5 ?_ (by omega) ?_ σ6 H6 b6
        · rw [eq]; simp
        · rw [if_neg (by omega), e1]
        · intro x hx
          rcases List.mem_append.mp hx with h | h
          · refine ⟨by simp [h], fun e => ?_⟩
            have := hz.q5 x h
            omega
          · refine ⟨by rw [eq]; simp [h], fun e => ?_⟩
            have nl := hndq.2.1
            rw [eq] at nl
            exact (List.nodup_append.mp nl).2.2 x h j (by simp) e
        · have n := hz.pf.nd
          rw [eq, ← List.append_assoc] at n
          exact (List.nodup_append.mp n).1
        · exact fun x hx => hz.l5 x (by rw [eq]; simp [hx])
        · rw [eq, List.length_append] at hln; simp at hln; omega
    · obtain ⟨⟨f, left, most⟩, ⟨⟨qx, wq⟩, ⟨lx, wL⟩⟩⟩ := z
      dsimp only at hz b
      have hlg := hz.lg
      have fin : ∀ (f : List Int) (most : Nat) (av : List Nat), PF g f 0 most av → Bd 100 f → most ≤ g → ∀ rs ms σ H, (∀ m ∈ [(d, Dice)], m ∈ ms) → At ⟨H0, [d], []⟩ rs ms σ H → rs[5]? = some (some (TuI K f)) → rs[7]? = some (some (IsI (most : Int))) → tRet (tTup (tCons (tVar 5) (tCons (tVar 7) tNil))) { nx := fun _ H' => Q .non H', rt := Q } σ H := fun f most av hpf hbd hm rs ms σ H hms b h5 h7 =>
        w_ret b (e_tup (K := K) (a_cons (e_var h5) (a_cons (e_var h7) a_nil)) (by simp)) fun v H' a' p => q v H' a'.kp (a'.me.sub hms) ⟨(f, most), ⟨⟨av, hpf⟩, hbd, by omega⟩, p⟩
      refine w_seq (w_if b (t_test (e_opI0 (e_var rfl) e_c)) (fun hb H1 b1 => ?_) (fun hb H1 b1 => ?_))
      · have hl1 : 1 ≤ left := by have := of_decide_eq_true hb; omega
        have hqn := hz.qn
        have hln := hz.ln
        obtain ⟨li, j, eq, edl⟩ := split_last (l := lx) (by omega)
        have hj := hz.l5 j (by rw [eq]; simp)
        obtain ⟨v5, s5, r5⟩ := b1.sl 5 _ rfl
        refine ⟨v5, s5, x_pop (p := pL) (ws := wL) (ms1 := []) (ms2 := [(pq, (· = wq)), (d, Dice)]) (Rs := lx.map (FL K)) (R := FL K j) b1 rfl (by rw [eq]; exact last_map _ _ _) fun y H2 b2 py => ?_⟩
        obtain ⟨v6, s6, r6⟩ := b2.sl 6 _ rfl
        obtain ⟨v5', s5', r5'⟩ := b2.sl 5 _ rfl
        have e55 : v5 = v5' := by rw [s5] at s5'; exact Option.some.inj (Option.some.inj s5')
        subst e55
        have hav : ∀ x ∈ qx ++ li, x ∈ qx ++ lx ∧ x ≠ j := by
          intro x hx
          rcases List.mem_append.mp hx with h | h
          · refine ⟨by simp [h], fun e => ?_⟩
            have := hz.q5 x h
            omega
          · refine ⟨by rw [eq]; simp [h], fun e => ?_⟩
            have nl := (List.nodup_append.mp hz.pf.nd).2.1
            rw [eq] at nl
            exact (List.nodup_append.mp nl).2.2 x h j (by simp) e
        have hnd : (qx ++ li).Nodup := by
          have n := hz.pf.nd
          rw [eq, ← List.append_assoc] at n
          exact (List.nodup_append.mp n).1
        have L1 := LI.part (n := 5) (o := left) (wd := 1) hz.pf (by rw [eq]; simp : j ∈ qx ++ lx) hj.2 (by rw [if_neg (by omega)]) hav hnd (by omega) hz.q5 (fun x hx => hz.l5 x (by rw [eq]; simp [hx])) (by omega) (by rw [eq, List.length_append] at hln; simp at hln; omega) hlg hg6 hz.mg hz.bd
        have e0 : left - 1 * left = 0 := by omega
        rw [e0] at L1
        have hpl : 1 ≤ (pl j).length ∧ (pl j).length ≤ 3 := by rw [pl_len j hj.2]; split <;> omega
        have hpb : Bd 2 (pl j) := Bd.of (pl_bd j hj.2)
        have hl2 : left * ((pl j).length - 1) ≤ 6 * 2 := Nat.mul_le_mul (by omega) (by omega)
        have hpw := bd_powL hpb hpl.1 left (by omega)
        have hpwl := powL_length (a := pl j) hpl.1 left
        have hfl := hz.pf.len
        refine ⟨v6, s6, [FL K j, IsI (left : Int)], TuI K (powL (pl j) left), ⟨pl j, left, rfl, hpl.1, hpl.2, by omega, hpb.mono (by omega), rfl⟩, ⟨py, r6, trivial⟩, fun y2 H3 k3 p3 => ?_⟩
        have b3 := b2.grow k3
        obtain ⟨v5', s5', r5'⟩ := b3.sl 5 _ rfl
        have e55 : v5 = v5' := by rw [s5] at s5'; exact Option.some.inj (Option.some.inj s5')
        subst e55
        refine ⟨[TuI K f, TuI K (powL (pl j) left)], TuI K (prod f (powL (pl j) left)), ⟨f, powL (pl j) left, rfl, ?_, ?_, ?_, ?_, ?_, ?_, rfl⟩, ⟨r5', p3, trivial⟩, fun y3 H4 k4 p4 => ?_⟩
        · omega
        · omega
        · omega
        · omega
        · exact hz.bd.mono (by omega)
        · exact hpw.mono (by omega)
        have b4 := b3.grow k4
        have hmx : (if (left : Int) > (most : Int) then (left : Int) else (most : Int)) = ((Nat.max most left : Nat) : Int) := by
          show _ = ((max most left : Nat) : Int)
          split <;> omega
        refine (a_cons (R := IsI ((Nat.max most left : Nat) : Int)) (hmx ▸ e_max (e_var rfl) (e_var rfl)) a_nil) _ H4 b4 _ fun us H5 b5 k5 p5 => ?_
        obtain ⟨u, rfl, eu⟩ := ps1 p5
        refine ⟨_, _, rfl, ?_⟩
        have b6 := (b5.set (i := 5) ((TuI K (prod f (powL (pl j) left))).mono (k5.im b4.me) p4)).set (i := 7) (v := u) (r := IsI ((Nat.max most left : Nat) : Int)) eu
        exact fin _ _ _ L1.pf (L1.bd.mono (by omega)) L1.mg _ _ _ _ (fun m hm => by simp at hm; simp [hm]) b6 rfl rfl
      · have hl0 : left = 0 := by have := of_decide_eq_false hb; omega
        subst hl0
        exact w_next (fin f most _ hz.pf (hz.bd.mono (by omega)) hz.mg _ _ _ _ (fun m hm => by simp at hm; simp [hm]) b1 rfl rfl))
end
end K45
namespace K45
open PySem PySem.Spec PyProof.Rows L2
/-! ### repr of a tuple of ints, where no repr is under way -/
def ShortN (n : Int) : Prop := n.natAbs.log2 < 1920
def rReprT (K : PySem.W.Frag) : List V → Hp → VK → Prop := fun xs H Q => ∃ (a : Addr) (ns : List Int), xs = [.ref a] ∧ SqT K H a (ns.map V.int) ∧ (∀ n ∈ ns, ShortN n) ∧ ns.length ≤ 8 ∧ Q (.str (PyData.tuple (ns.map PyData.int)).shown) H
theorem shownAll_map : ∀ ns : List Int, PyData.shownAll (ns.map PyData.int) = ns.map fun n => ((toString n : String) : Str)
  | [] => rfl
  | n :: ns => by
    show PyData.shown (.int n) :: PyData.shownAll (ns.map PyData.int) = _
    rw [shownAll_map ns]; rfl
theorem showable_ints : ∀ ns : List Int, (∀ n ∈ ns, ShortN n) → PyData.showableAll (ns.map PyData.int) = true
  | [], _ => rfl
  | n :: ns, h => by
    show (decide (n.natAbs.log2 < 1920) && PyData.showableAll (ns.map PyData.int)) = true
    rw [showable_ints ns fun x hx => h x (List.mem_cons_of_mem _ hx), decide_eq_true (show n.natAbs.log2 < 1920 from h n List.mem_cons_self)]; rfl
theorem piled_ints : ∀ ns : List Int, (∀ n ∈ ns, ShortN n) → piled (ns.map fun n => ((toString n : String) : Str)) ≤ ns.length * 2000
  | [], _ => Nat.zero_le _
  | n :: ns, h => by
    have h1 := piled_ints ns fun x hx => h x (List.mem_cons_of_mem _ hx)
    have h2 := int_text_length_le (k := 1920) (by decide) (h n List.mem_cons_self)
    rw [List.map_cons, piled_cons, PySem.ofString_length, List.length_cons, Nat.succ_mul]
    omega
theorem depth_ints (ns : List Int) : (PyData.tuple (ns.map PyData.int)).depth ≤ 1 := by
  have := (lay_ints ns).2
  show PyData.depthAll (ns.map PyData.int) + 1 ≤ 1
  omega
theorem nodict_ints (ns : List Int) : (PyData.tuple (ns.map PyData.int)).hasDict = false := by
  have : ∀ ns : List Int, PyData.hasDictAll (ns.map PyData.int) = false := fun ns => by
    induction ns with
    | nil => rfl
    | cons n ns ih => exact ih
  exact this ns
theorem cr_reprT {X : Cx} {k : Nat} (hg : X.A.guards = some []) (hr : Room k X.A) : CallR X (.builtin "repr") (rReprT X.K) := by
  intro pins s σ H vs us Q I r h
  obtain ⟨a, ns, rfl, hs, hn, h8, q⟩ := h
  have hv := Vals.ref1 r
  obtain ⟨as, rd⟩ := Dp.reads I _ _ _ (.tup hs (dp_ints ns)) (show RelV (.ref a) (.ref a) from rfl)
  rw [hv]
  have hu := hr.units
  have hd := depth_ints ns
  refine repr_of_reads' rd (showable_ints ns hn) (fun z => by rw [nodict_ints] at z; cases z) hg (by omega) (fun b o e => e) (fun h' u tk hk => ⟨.str _, _, I.kept hk, ⟨u, rfl⟩, q⟩) ?_
  show (tupleText (PyData.shownAll (ns.map PyData.int))).length ≤ sizeLine
  rw [shownAll_map]
  have h1 := fmt_text (ns.map fun n => ((toString n : String) : Str))
  have h2 := piled_ints ns hn
  have h3 : ns.length * 2000 ≤ 8 * 2000 := Nat.mul_le_mul_right _ h8
  have h4 : 20000 ≤ sizeLine := by decide
  omega
theorem e_reprT {c : Ct} {rs : List (Option Rl)} {ms : Ms} {K : PySem.W.Frag} {te : TE} {f : List Int} (h : EJ c rs ms te (TuI K f)) (hn : ∀ n ∈ f, ShortN n) (h8 : f.length ≤ 8) : EJ c rs ms (tCB (rReprT K) (tCons te tNil)) (IsV (.str (PyData.tuple (f.map PyData.int)).shown)) :=
  e_cb (a_cons h a_nil) fun vs H p Q q => by
    obtain ⟨v, rfl, a, rfl, h⟩ := ps1 p
    exact ⟨a, f, rfl, h, hn, h8, q _ H (Kp.refl _ _) rfl⟩
/-! ### defs that are called where no repr is under way -/
def FnG (P : Program) (w : World) (K : PySem.W.Frag) (mg : Str → Option Value) (base : Heap) (k : Nat) (f : Addr) (fd : FuncData) (ps : List Str) (sp : Sp) : Prop :=
  (∀ vs H Q E, sp vs H Q E → vs.length = ps.length) ∧
  ∀ (A : Around) (outer : List Env) (s : Shared) (H : Hp) (args : Args) (us : List Value) (vs : List V) (Q : VK) (E : XK), A.guards = some [] → Room k A → Env0 P w K mg base A outer s H → BindsTo s fd args (ps.zip us) → Vals vs us → sp vs H Q E →
    codeAny (model P w) A (.call (.ref f) args) (CR CX0 outer P w H s Q E) s
section
variable {P : Program} {w : World} {K : PySem.W.Frag} {mg : Str → Option Value} {base : Heap} {x q : Str} {st : Stmt} {f : Addr} {fd : FuncData} {N ps : List Str} {k : Nat} {sp : Sp}
theorem fnG_of (F : FnP K x st f fd) (sc : FnScope N ps (defScope st)) (len : ∀ vs H Q E, sp vs H Q E → vs.length = ps.length)
    (hb : ∀ (cdv : Value) (A : Around) (outer : List Env) (s : Shared) (H : Hp) (vs : List V) (Q : VK) (E : XK), A.guards = some [] → Room k (A.deeper (envOfC x (defScope st) s.heap.objs.size f cdv)) → sp vs H Q E →
      ∃ t, PSs (cxOf CX0 P w K mg base N x (defScope st) f cdv A outer s H E) (defBody st) t ∧ t { nx := fun _ H' => Q .non H', rt := Q } (start N vs) H) : FnG P w K mg base (k + 1) f fd ps sp := by
  obtain ⟨oc, od, dV, kV, doc, pm, an, cdv, ct, osl, e, lk, hcd, _, _⟩ := F.ex
  subst e
  refine ⟨len, ?_⟩
  intro A outer s H args us vs Q E hg hr e0 hbind r hsp
  have up : ∀ b o, base.get? b = some o → s.heap.get? b = some o := fun b o e => (e0.bs b o e).1
  have inK := PySem.W.Frag.In.keeps e0.mod.kin up
  have nol := e0.mod.nolimit.keeps up
  have kinds : ∀ y ∈ ps.zip us, (defScope st).names.lookup y.1 = some .local ∨
      ((defScope st).names.lookup y.1 = some .cell ∧ ((cellsFrom (s.heap.objs.size + 1) (defScope st).names []).lookup y.1).isSome = true) := by
    intro y hy
    cases sc.par y.1 (List.of_mem_zip (a := y.1) (b := y.2) hy).1 with
    | inl z => exact Or.inl z
    | inr z => exact Or.inr ⟨z, PySem.W.cellsFrom_some _ _ _ (.inl z)⟩
  refine codeAny_call_function hr.depth (inK _ _ lk) rfl sc.co sc.gen rfl (PySem.W.codeRec_of inK hcd) ?_
  refine hbind _ _ _ _ ?_
  refine wpAny_newFunctionEnv_cells sc.kind kinds ?_
  intro fv en s1 ic
  subst en
  refine ⟨nol.keeps ic.toInCall.keep, codeAny_func ?_⟩
  obtain ⟨t, d, rd⟩ := hb cdv A outer s H vs Q E hg (hr.deeper _) hsp
  have J0 := inv_start (CX := CX0) (E := E) sc hr.hd e0 (len _ _ _ _ hsp) r ic
  refine wpAny_mono (d.run [] s1 (start N vs) H _ J0 rd) ?_ (fun _ _ z => z)
  intro fl s' res
  match fl, res with
  | .ret u, ⟨v, _, H', J, rv, z⟩ => exact ⟨v, H', J.os, J.bare, J.base, J.hok, rv, z⟩
  | .next, ⟨_, H', J, z⟩ => exact ⟨.non, H', J.os, J.bare, J.base, J.hok, rfl, z⟩
  | .brk, ⟨_, _, _, z⟩ => exact z.elim
  | .cont, ⟨_, _, _, z⟩ => exact z.elim
end
structure CalG (P : Program) (w : World) (K : PySem.W.Frag) (mg : Str → Option Value) (base : Heap) (k : Nat) (x : Str) (sp : Sp) : Prop where
  ex : ∃ (f : Addr) (fd : FuncData) (ps : List Str), FnG P w K mg base k f fd ps sp ∧ mg x = some (.ref f) ∧ PySem.W.keepIn K (.ref f) = true ∧ Binds K fd ps []
section
variable {X : Cx} {j k : Nat} {x : Str} {sp : Sp} {p pos : Pos} {e : Expr} {es : List Expr} {t : TA}
theorem pe_cG (c : CalG X.prog X.w X.K X.mg X.base k x sp) (hgd : X.A.guards = some []) (hr : Room j X.A) (hk : k ≤ j) (hgl : Gl X x) (ha : PA X (e :: es) t)
    (hdb : (x == ("__debug__" : Str)) = false := by decide) (he : starEach (e :: es) X.env = (false, eval e X.env) :: starEach es X.env := by rfl) (hpl : (backTo pos (starEach es X.env)).any (·.1) = false := by rfl) :
    PE X (.Call (.Name x p) (e :: es) [] pos) (tCall sp [] E0 t) := by
  obtain ⟨f, fd, ps, F, hm, kp, hb⟩ := c.ex
  constructor
  intro pins s σ H Q I h
  apply wpAny_Call_Name_kw
  refine ld_glob I hgl hm (PySem.W.callWith_K (h₀ := X.base) I.ok.mod.kin kp (thn (ha.run pos pins s σ H _ I h) ?_) he hpl) hdb
  rintro us s1 ⟨vs, H1, I1, r, z⟩
  refine ⟨I1.kIn, wpAny_call (codeAny_mono (F.2 X.A X.stack s1 H1 ⟨us, []⟩ us vs Q E0 hgd (hr.mono hk) I1.env0 ?_ r (by rw [List.append_nil] at z; exact z)) ?_)⟩
  · have hl := F.1 _ _ _ _ z
    rw [List.append_nil, r.length] at hl
    have := hb s1 us I1.kIn (by rw [List.append_nil]; exact hl)
    rwa [List.append_nil] at this
  · intro res s' hq
    match res, hq with
    | .ok (.ret u), hq => exact I1.after hq
    | .ok .next, hq => exact hq.elim
    | .ok .brk, hq => exact hq.elim
    | .ok .cont, hq => exact hq.elim
    | .error e, hq => exact hq.elim
end
end K45
namespace K45
open PySem PySem.Spec PyProof.Rows L2
abbrev sp__law_falls_right (K : PySem.W.Frag) : Sp := spD fun Rs R => ∃ g : Nat, Rs = [IsI (g : Int)] ∧ 1 ≤ g ∧ g ≤ 6 ∧ R = IsB true
abbrev sp__law_right (K : PySem.W.Frag) : Sp := spD fun Rs R => ∃ g : Nat, Rs = [IsI (g : Int)] ∧ 1 ≤ g ∧ g ≤ 6 ∧ R = IsB true
section
variable {c : Ct} {rs : List (Option Rl)} {ms : Ms} {σ : L2.St} {H H' : Hp} {K : PySem.W.Frag} {R R' Ra Rb Rc : Rl} {te ta tb to tv : TE} {tt : TT} {tr : TA} {Rs Ws Rs' : List Rl} {E : XK} {nx : L2.St → Hp → Prop} {rt : VK} {bk ct : L2.St → Hp → Prop}
theorem w_asgGA {α : Type} {φ : α → Prop} {F : α → Rl} {g : TG} {is : List Nat} {rs' : α → List (Option Rl)} (a : At c rs ms σ H) (h : EJ c rs ms te (AnyR φ F)) (hg : ∀ x, φ x → GJ c rs ms g (F x) is (rs' x)) (k : ∀ x, φ x → ∀ σ' H', At c (rs' x) ms σ' H' → nx σ' H') : tAsg te g ⟨nx, rt, bk, ct⟩ σ H :=
  h σ H a _ fun v H1 a1 _ ⟨x, hx, p⟩ => hg x hx v σ H1 a1 p _ fun σ' b _ => k x hx σ' H1 b
theorem mk_core {C : Addr} {S : Rl → List Int → Prop} {f : List Int} {e : V} {H1 : Hp} {Q : VK} (a1 : At c rs ms σ H1) (pe : R.p e H1) (hs : S R f) (q : ∀ v H3, At c rs ms σ H3 → Kp (ads ms) H1 H3 → (SiR K C f).p v H3 → Q v H3) :
    ∀ x dx, H1 x = none → H1 dx = none → dx ≠ x → spI K C S (.ref x :: ([e] ++ [])) (upd (upd H1 dx (.own x)) x (.ins C dx [])) (fun v H2 => v = .non ∧ Q (.ref x) H2) E := by
  have te : EJ c rs ms (fun σ' H' Q' => σ' = σ → H' = H1 → Q' e H') (IsV e) := fun σ' H' a' Q' q' e1 e2 => q' e H' a' (Kp.refl _ _) rfl
  have := e_make (K := K) (C := C) (R := ⟨fun v H' => v = e ∧ R.p v H', fun i h => ⟨h.1, R.mono i h.2⟩⟩) (S := fun R' f => S R f ∧ R' = ⟨fun v H' => v = e ∧ R.p v H', fun i h => ⟨h.1, R.mono i h.2⟩⟩) (E := E) (f := f) (tr := fun σ' H' Q' => σ' = σ → H' = H1 → Q' [e] H') (c := c) (rs := rs) (ms := ms)
    (fun σ' H' a' Q' q' e1 e2 => q' [e] H' a' (Kp.refl _ _) ⟨⟨rfl, by rw [e2]; exact pe⟩, trivial⟩) ⟨hs, rfl⟩ σ H1 a1 Q q rfl rfl
  intro x dx hx hdx ne
  obtain ⟨y, dy, e', R', f', h1, h2, ⟨h3, h4⟩, h5, h6, h7⟩ := this x dx hx hdx ne
  subst h4
  exact ⟨y, dy, e', R, f', h1, h2, h3, h5.2, h6, h7⟩
theorem e_makeE {α : Type} {φ : α → Prop} {F : α → Rl} {G : α → List Int} {C : Addr} {S : Rl → List Int → Prop} (h : EJ c rs ms te (AnyR φ F)) (hs : ∀ x, φ x → S (F x) (G x)) : EJ c rs ms (tMake C (spI K C S) [] E (tCons te tNil)) (AnyR φ fun x => SiR K C (G x)) := fun σ H a Q q =>
  h σ H a _ fun v H1 a1 k1 ⟨x, hx, p⟩ => mk_core a1 p (hs x hx) fun v' H3 a3 k3 p3 => q v' H3 a3 (k1.trans k3) ⟨x, hx, p3⟩
theorem inv_ints : ∀ {l : List Int}, (∀ x ∈ l, x ≠ 0) → inV (.int 0) (l.map V.int) = false
  | [], _ => rfl
  | x :: l, h => by
    show (eqV (.int x) (.int 0) || inV (.int 0) (l.map V.int)) = false
    have hx := h x List.mem_cons_self
    have e : eqV (.int x) (.int 0) = false := by
      show (x == 0) = false
      simpa using hx
    rw [e, inv_ints fun y hy => h y (List.mem_cons_of_mem _ hy)]; rfl
theorem flat_ints : ∀ l : List Int, (l.map V.int).all flatV = true
  | [] => rfl
  | x :: l => by
    show (true && (l.map V.int).all flatV) = true
    rw [flat_ints l]; rfl
theorem e_notIn0 {l : List Int} (ha : EJ c rs ms ta (IsI 0)) (hb : EJ c rs ms tb (TuI K l)) (h : ∀ x ∈ l, x ≠ 0) : EJ c rs ms (tOp (rIn K true) ta tb) (IsB true) :=
  e_op ha hb fun x y H hx ⟨b, e2, h2⟩ Q q => by
    cases (show x = .int 0 from hx)
    subst e2
    refine ⟨b, _, rfl, .inr h2, rfl, flat_ints l, q _ H (Kp.refl _ _) ?_⟩
    show V.bl (if true = true then !inV (.int 0) (l.map V.int) else _) = V.bl true
    rw [if_pos rfl, inv_ints h]; rfl
end
/-! ### the promise of a def with the dice that is called where no repr is under way -/
section
variable {P : Program} {w : World} {K : PySem.W.Frag} {mg : Str → Option Value} {base : Heap} {x : Str} {st : Stmt} {N ps : List Str} {k : Nat} {t : TS} {S : List Rl → Rl → Prop}
theorem calGD (D : Dfn K mg x st) (sc : FnScope N ps (defScope st)) (b : BindsW x st ps) (hl : ∀ Rs R, S Rs R → Rs.length + 1 = ps.length)
    (hd : ∀ (f : Addr) (cdv : Value) (A : Around) (outer : List Env) (s : Shared) (H : Hp) (E : XK), A.guards = some [] → Room k (A.deeper (envOfC x (defScope st) s.heap.objs.size f cdv)) → PSs (cxOf CX0 P w K mg base N x (defScope st) f cdv A outer s H E).nox (defBody st) t)
    (hs : ∀ Rs R d, S Rs R → ∀ H0, SJ t ⟨H0, [d], []⟩ (rs0 N.length (IsV (.ref d) :: Rs)) [(d, Dice)] R) : CalG P w K mg base (k + 1) x (spD S) := by
  obtain ⟨f, fd, F, g⟩ := D.ex
  refine ⟨f, fd, ps, fnG_of F sc (fun vs H Q E h => ?_) (fun cdv A outer s H vs Q E hg hr h => ⟨t, (hd f cdv A outer s H E hg hr).nox, ?_⟩), g, F.kp, F.bindsN b⟩
  · obtain ⟨d, ws, Rs, R, rfl, h1, h2, _⟩ := h
    rw [List.length_cons, h2.len, hl Rs R h1]
  · obtain ⟨d, ws, Rs, R, rfl, h1, h2, h3, q⟩ := h
    refine hs Rs R d h1 H _ H (at_start (Rs := IsV (.ref d) :: Rs) (vs := .ref d :: ws) (show Ps (IsV (.ref d) :: Rs) (.ref d :: ws) H from ⟨rfl, h2⟩) (fun m hm => ?_) (by simp [ads]) rfl) Q fun v H' k' m p => q v H' k' (m (d, Dice) List.mem_cons_self) p
    have e : m = (d, Dice) := by simpa using hm
    subst e; exact h3
end
end K45
namespace K45
open PySem PySem.Spec PyProof.Rows L2
local macro_rules | `(tactic| walk_at "ev") => `(tactic| repeat' first
  | exact e_var rfl | exact e_c | exact a_nil | refine a_cons ?_ ?_
  | refine e_opI0 ?_ ?_ | refine e_opI ?_ ?_ ?_ | refine e_eqI ?_ ?_ | refine e_neI ?_ ?_ | refine e_neg ?_
  | refine e_lenI ?_ | refine e_lenR ?_ | refine e_abs ?_ | refine e_max ?_ ?_ | refine e_min ?_ ?_ | refine e_intB ?_ | refine e_intI ?_
  | refine e_chain ?_ ?_ ?_ | refine e_ixI ?_ ?_ ?_ ?_ | refine e_ixR ?_ ?_ ?_ ?_
  | refine e_slHead ?_ ?_ ?_ | refine e_slTail ?_ ?_ ?_
  | refine t_test ?_ | refine t_b ?_ | refine e_ifI ?_ ?_ ?_
  | refine ij_zipT ?_ ?_ | refine ij_tupI ?_ | refine ij_rng ?_ ?_
  | exact g_name | exact g_pair)
local macro_rules | `(tactic| walk_at "evn") => `(tactic| repeat' first
  | exact e_var rfl | exact EJ.any e_c | exact EJ.any (e_var rfl) | exact EJ.anyN (e_var rfl) | refine e_diceC (d := ‹Addr›) List.mem_cons_self ?_ (by decide) | refine e_mulL (φ := fun _ => True) (by decide) ?_ | refine e_mulR (φ := fun _ => True) (by decide) ?_ | exact e_c
  | refine e_a0 ?_ ?_ | refine e_intN ?_)
local macro_rules | `(tactic| walk_at "wk") => `(tactic| repeat' first | exact wk_nil | refine wk_none ?_ | refine wk_some (fun _ _ h => h) ?_)
abbrev N__law_falls_right : List Str := ["_law_dice_here", "_law_degree", "_law_told", "_law_entries", "_law_most"]
theorem sc__law_falls_right : FnScope N__law_falls_right ["_law_dice_here", "_law_degree"] (defScope s__law_falls_right) := ⟨rfl, rfl, rfl, by decide +kernel, rfl, by decide +kernel, by decide +kernel⟩
def t__law_falls_right (K : PySem.W.Frag) : TS := (tSeq (tAsg (tCall (sp__law_parted_form K) [] E0 (tCons (tVar 0) (tCons (tVar 1) tNil))) (L2.gTup K 2 (gCons (gName 3) (gCons (gName 4) gNil))))
  (tSeq (tAsg (tCall (sp_told_invariants K) [] E0 (tCons (tMake 511 (sp_Form K) [] E0 (tCons (tCall (sp__law_changed K) [] E0 (tCons (tVar 3) (tCons (tCall (sp__law_table K) [] E0 (tCons (tVar 0) (tCons (tC (.int 2)) tNil))) tNil))) tNil)) tNil)) (gName 2))
  (tSeq (tIfS (tTest (tOp rNe (tOp rEq (tCall (sp__law_shared K) [] E0 (tCons (tVar 2) tNil)) (tC (.int 0))) (tOp rGtB (tOp rMulI (tC (.int 2)) (tVar 4)) (tVar 1)))) (tRet (tC (.bl false))) tNext)
  (tRet (tOrV (tOp rNe (tOp rMulI (tC (.int 2)) (tVar 4)) (tVar 1)) (tOp (rIn K true) (tC (.int 0)) (tVar 2)))))))
structure C__law_falls_right (P : Program) (w : World) (K : PySem.W.Frag) (mg : Str → Option Value) (base : Heap) : Prop where
  _law_parted_form_ : C8.Cal P w K mg base 3 "_law_parted_form" (sp__law_parted_form K) []
  _law_table_ : C8.Cal P w K mg base 3 "_law_table" (sp__law_table K) []
  _law_changed_ : C8.Cal P w K mg base 3 "_law_changed" (sp__law_changed K) []
  told_invariants_ : C8.Cal P w K mg base 12 "told_invariants" (sp_told_invariants K) []
  _law_shared_ : C8.Cal P w K mg base 2 "_law_shared" (sp__law_shared K) []
  Form_ : C8.Mak P w K mg base 5 "Form" 511 (sp_Form K) []
theorem der__law_falls_right {P : Program} {w : World} {K : PySem.W.Frag} {mg : Str → Option Value} {base : Heap} {f : Addr} (T : Gb mg) (C : C__law_falls_right P w K mg base) (cdv : Value) (A : Around) (outer : List Env) (s : Shared) (H : Hp) (E : XK) (hr : Room 12 (A.deeper (envOfC "_law_falls_right" (defScope s__law_falls_right) s.heap.objs.size f cdv))) :
    PSs (cxOf CX0 P w K mg base N__law_falls_right "_law_falls_right" (defScope s__law_falls_right) f cdv A outer s H E).nox (defBody s__law_falls_right) (t__law_falls_right K) :=
  (pss_cons (ps_asg (C8.pe_c C._law_parted_form_ hr (by decide) (by rfl) (pa_cons (pv 0) (pa_cons (pv 1) pa_nil))) (pg_tup rfl (pgs_cons (pg_name (i := 3) sc__law_falls_right.nd rfl (Or.inl rfl)) (pgs_cons (pg_name (i := 4) sc__law_falls_right.nd rfl (Or.inl rfl)) pgs_nil))))
      (pss_cons (ps_set (i := 2) sc__law_falls_right.nd rfl (.inl rfl) (C8.pe_c C.told_invariants_ hr (by decide) (by rfl) (pa_cons (C8.pe_mk C.Form_ hr (by decide) (by rfl) (pa_cons (C8.pe_c C._law_changed_ hr (by decide) (by rfl) (pa_cons (pv 3) (pa_cons (C8.pe_c C._law_table_ hr (by decide) (by rfl) (pa_cons (pv 0) (pa_cons pe_int pa_nil))) pa_nil))) pa_nil)) pa_nil)))
      (pss_cons (ps_if (pt_cmpR op_ne (pe_cmpR op_eq (C8.pe_c C._law_shared_ hr (by decide) (by rfl) (pa_cons (pv 2) pa_nil)) pe_int (nomark _)) (pe_cmpR op_gt (pe_op op_mul pe_int (pv 4)) (pv 1) (nomark _)) (nomark _)) (pss_one (ps_ret pe_bl)) pss_nil)
      (pss_one (ps_ret (pe_or (pe_cmpR op_ne (pe_op op_mul pe_int (pv 4)) (pv 1) (nomark _)) (pe_one (pe_cmpR op_notIn_seq pe_int (pv 2) rfl))))))))
abbrev N__law_right : List Str := ["_law_dice_here", "_law_degree", "_law_later", "_law_powers", "_law_factor", "_law_scaled_here", "_law_entries", "_law_table_here", "_law_told", "_law_due", "_law_size", "_law_power_here", "_law_number"]
theorem sc__law_right : FnScope N__law_right ["_law_dice_here", "_law_degree"] (defScope s__law_right) := ⟨rfl, rfl, rfl, by decide +kernel, rfl, by decide +kernel, by decide +kernel⟩
def t__law_right (K : PySem.W.Frag) : TS := (tSeq (tAsg (tTup (tCons (tCall (sp__law_form K) [] E0 (tCons (tVar 0) (tCons (tVar 1) tNil))) (tCons (tCall (sp__law_table K) [] E0 (tCons (tVar 0) (tCons (tC (.int 3)) tNil))) tNil))) (L2.gTup K 2 (gCons (gName 6) (gCons (gName 7) gNil))))
  (tSeq (tPar 8 9 (tCons (tCall (sp_told_invariants K) [] E0 (tCons (tMake 511 (sp_Form K) [] E0 (tCons (tVar 6) tNil)) tNil)) (tCons (tCall (sp__law_invariants K) [] E0 (tCons (tVar 6) tNil)) tNil)))
  (tSeq (tIfS (tTest (tOp rNe (tCB (rReprT K) (tCons (tVar 8) tNil)) (tCB (rReprT K) (tCons (tVar 9) tNil)))) (tRet (tC (.bl false))) tNext)
  (tSeq (tAsg (tCall (sp_told_invariants K) [] E0 (tCons (tMake 511 (sp_Form K) [] E0 (tCons (tCall (sp__law_changed K) [] E0 (tCons (tVar 6) (tCons (tVar 7) tNil))) tNil)) tNil)) (gName 2))
  (tSeq (tAsg (tLc (iTup K (tCall (sp__law_sizes K) [] E0 (tCons (tVar 1) tNil))) (gName 10) tYes (tCall (sp__law_raised K) [] E0 (tCons (tCall (sp__law_det K) [] E0 (tCons (tVar 7) tNil)) (tCons (tOp rDivI (tOp rMulI (tVar 1) (tVar 10)) (tC (.int 2))) tNil))) [10]) (gName 3))
  (tSeq (tIfS (tTest (tOp (rNeD K) (tCB (rListOf K) (tCons (tVar 2) tNil)) (tLc (iZipM K (tCons (tVar 3) (tCons (tVar 9) tNil))) (L2.gTup K 2 (gCons (gName 11) (gCons (gName 12) gNil))) tYes (tOp rMulW (tVar 11) (tVar 12)) [11, 12]))) (tRet (tC (.bl false))) tNext)
  (tSeq (tAsg (tOp rAddI (tC (.int 1)) (tCall (sp__law_roll K) [] E0 (tCons (tVar 0) (tCons (tC (.int 5)) tNil)))) (gName 4))
  (tSeq (tAsg (tCall (sp_told_invariants K) [] E0 (tCons (tMake 511 (sp_Form K) [] E0 (tCons (tCall (sp__law_scaled K) [] E0 (tCons (tVar 6) (tCons (tVar 4) tNil))) tNil)) tNil)) (gName 5))
  (tRet (tOp (rEqD K) (tCB (rListOf K) (tCons (tVar 5) tNil)) (tLc (RZ.iZipA K (tCons (tVar 9) (tCons (tCall (sp__law_sizes K) [] E0 (tCons (tVar 1) tNil)) tNil))) (L2.gTup K 2 (gCons (gName 12) (gCons (gName 10) gNil))) tYes (tOp rMulW (tVar 12) (tCall (sp__law_raised K) [] E0 (tCons (tVar 4) (tCons (tVar 10) tNil)))) [12, 10])))))))))))
structure C__law_right (P : Program) (w : World) (K : PySem.W.Frag) (mg : Str → Option Value) (base : Heap) : Prop where
  _law_table_ : C8.Cal P w K mg base 3 "_law_table" (sp__law_table K) []
  _law_form_ : C8.Cal P w K mg base 5 "_law_form" (sp__law_form K) []
  _law_invariants_ : C8.Cal P w K mg base 4 "_law_invariants" (sp__law_invariants K) []
  told_invariants_ : C8.Cal P w K mg base 12 "told_invariants" (sp_told_invariants K) []
  _law_changed_ : C8.Cal P w K mg base 3 "_law_changed" (sp__law_changed K) []
  _law_sizes_ : C8.Cal P w K mg base 1 "_law_sizes" (sp__law_sizes K) []
  _law_det_ : C8.Cal P w K mg base 1 "_law_det" (sp__law_det K) []
  _law_raised_ : C8.Cal P w K mg base 1 "_law_raised" (sp__law_raised K) []
  _law_roll_ : C8.Cal P w K mg base 1 "_law_roll" (sp__law_roll K) []
  _law_scaled_ : C8.Cal P w K mg base 1 "_law_scaled" (sp__law_scaled K) []
  Form_ : C8.Mak P w K mg base 5 "Form" 511 (sp_Form K) []
theorem der__law_right {P : Program} {w : World} {K : PySem.W.Frag} {mg : Str → Option Value} {base : Heap} {f : Addr} (T : Gb mg) (C : C__law_right P w K mg base) {A : Around} (hgd : A.guards = some []) (cdv : Value) (outer : List Env) (s : Shared) (H : Hp) (E : XK) (hr : Room 12 (A.deeper (envOfC "_law_right" (defScope s__law_right) s.heap.objs.size f cdv))) :
    PSs (cxOf CX0 P w K mg base N__law_right "_law_right" (defScope s__law_right) f cdv A outer s H E).nox (defBody s__law_right) (t__law_right K) :=
  (pss_cons (ps_asg (pe_tup (pa_cons (C8.pe_c C._law_form_ hr (by decide) (by rfl) (pa_cons (pv 0) (pa_cons (pv 1) pa_nil))) (pa_cons (C8.pe_c C._law_table_ hr (by decide) (by rfl) (pa_cons (pv 0) (pa_cons pe_int pa_nil))) pa_nil))) (pg_tup rfl (pgs_cons (pg_name (i := 6) sc__law_right.nd rfl (Or.inl rfl)) (pgs_cons (pg_name (i := 7) sc__law_right.nd rfl (Or.inr rfl)) pgs_nil))))
      (pss_cons (ps_par (i := 8) (j := 9) rfl sc__law_right.nd rfl rfl (by decide) rfl rfl (pa_cons (C8.pe_c C.told_invariants_ hr (by decide) (by rfl) (pa_cons (C8.pe_mk C.Form_ hr (by decide) (by rfl) (pa_cons (pv 6) pa_nil)) pa_nil)) (pa_cons (C8.pe_c C._law_invariants_ hr (by decide) (by rfl) (pa_cons (pv 6) pa_nil)) pa_nil)) rfl)
      (pss_cons (ps_if (pt_cmpR op_ne (pe_callB (cr_reprT hgd hr) (by rfl) T.repr_ (by decide +kernel) (pa_cons (pv 8) pa_nil)) (pe_callB (cr_reprT hgd hr) (by rfl) T.repr_ (by decide +kernel) (pa_cons (pv 9) pa_nil)) (nomark _)) (pss_one (ps_ret pe_bl)) pss_nil)
      (pss_cons (ps_set (i := 2) sc__law_right.nd rfl (.inl rfl) (C8.pe_c C.told_invariants_ hr (by decide) (by rfl) (pa_cons (C8.pe_mk C.Form_ hr (by decide) (by rfl) (pa_cons (C8.pe_c C._law_changed_ hr (by decide) (by rfl) (pa_cons (pv 6) (pa_cons (pv 7) pa_nil))) pa_nil)) pa_nil)))
      (pss_cons (ps_setLc (i := 3) (own := [("_law_size", 10)]) rfl sc__law_right.nd rfl rfl (sw_true rfl rfl rfl (by decide +kernel)) (pi_tup (C8.pe_c C._law_sizes_ hr (by decide) (by rfl) (pa_cons (pv 1) pa_nil))) (blkOk_by (own := [("_law_size", 10)]) (N := N__law_right) (sc := defScope s__law_right) (by decide +kernel)) (fun _ _ _ _ _ => (pg_name (i := 10) sc__law_right.nd rfl (Or.inl rfl))) (fun _ _ _ _ _ => pts_nil) (fun _ _ _ _ _ => (C8.pe_c C._law_raised_ hr (by decide) (by rfl) (pa_cons (C8.pe_c C._law_det_ hr (by decide) (by rfl) (pa_cons (pv 7) pa_nil)) (pa_cons (pe_op op_fdiv (pe_op op_mul (pv 1) (pv 10)) pe_int) pa_nil)))))
      (pss_cons (ps_if (pt_cmpR (op_neD hr.units) (pe_callTy call_list_of (by rfl) T.list_ (by decide +kernel) (pa_cons (pv 2) pa_nil)) (pe_lc (own := [("_law_power_here", 11), ("_law_number", 12)]) rfl sc__law_right.nd (pi_zipM (by rfl) T.zip_ (pa_cons (pv 3) (pa_cons (pv 9) pa_nil))) (blkOk_by (own := [("_law_power_here", 11), ("_law_number", 12)]) (N := N__law_right) (sc := defScope s__law_right) (by decide +kernel)) (fun _ _ _ _ _ => (pg_tup rfl (pgs_cons (pg_name (i := 11) sc__law_right.nd rfl (Or.inl rfl)) (pgs_cons (pg_name (i := 12) sc__law_right.nd rfl (Or.inl rfl)) pgs_nil)))) (fun _ _ _ _ _ => pts_nil) (fun _ _ _ _ _ => (pe_op op_mulW (pv 11) (pv 12)))) (nomark _)) (pss_one (ps_ret pe_bl)) pss_nil)
      (pss_cons (ps_set (i := 4) sc__law_right.nd rfl (.inr rfl) (pe_op op_add pe_int (C8.pe_c C._law_roll_ hr (by decide) (by rfl) (pa_cons (pv 0) (pa_cons pe_int pa_nil)))))
      (pss_cons (ps_set (i := 5) sc__law_right.nd rfl (.inl rfl) (C8.pe_c C.told_invariants_ hr (by decide) (by rfl) (pa_cons (C8.pe_mk C.Form_ hr (by decide) (by rfl) (pa_cons (C8.pe_c C._law_scaled_ hr (by decide) (by rfl) (pa_cons (pv 6) (pa_cons (pv 4) pa_nil))) pa_nil)) pa_nil)))
      (pss_one (ps_ret (pe_cmpR (op_eqD hr.units) (pe_callTy call_list_of (by rfl) T.list_ (by decide +kernel) (pa_cons (pv 5) pa_nil)) (pe_lc (own := [("_law_number", 12), ("_law_size", 10)]) rfl sc__law_right.nd (RZ.pi_zipA (by rfl) T.zip_ (pa_cons (pv 9) (pa_cons (C8.pe_c C._law_sizes_ hr (by decide) (by rfl) (pa_cons (pv 1) pa_nil)) pa_nil))) (blkOk_by (own := [("_law_number", 12), ("_law_size", 10)]) (N := N__law_right) (sc := defScope s__law_right) (by decide +kernel)) (fun _ _ _ _ _ => (pg_tup rfl (pgs_cons (pg_name (i := 12) sc__law_right.nd rfl (Or.inl rfl)) (pgs_cons (pg_name (i := 10) sc__law_right.nd rfl (Or.inl rfl)) pgs_nil)))) (fun _ _ _ _ _ => pts_nil) (fun _ _ _ _ _ => (pe_op op_mulW (pv 12) (C8.pe_c C._law_raised_ hr (by decide) (by rfl) (pa_cons (pv 4) (pa_cons (pv 10) pa_nil)))))) (nomark _))))))))))))
theorem bw__law_falls_right : BindsW "_law_falls_right" s__law_falls_right ["_law_dice_here", "_law_degree"] := fun kV doc pm an cdv ct us h => by
  match us, h with
  | [_, _], _ => rfl
theorem bw__law_right : BindsW "_law_right" s__law_right ["_law_dice_here", "_law_degree"] := fun kV doc pm an cdv ct us h => by
  match us, h with
  | [_, _], _ => rfl
theorem bd_short {f : List Int} (h : Bd 1919 f) : ∀ n ∈ f, ShortN n := fun n hn => by
  have := h.mem hn
  unfold ShortN
  by_cases e : n.natAbs = 0
  · rw [e]; decide
  · exact (Nat.log2_lt e).mpr (Nat.lt_of_lt_of_le this (Nat.pow_le_pow_right (by decide) (by decide)))
theorem sizes_bd : ∀ d, d ≤ 6 → (∀ z ∈ sizes d, z ≤ 12) ∧ (sizes d).length ≤ 4 := by decide
section
variable {P : Program} {w : World} {K : PySem.W.Frag} {mg : Str → Option Value} {base : Heap}
theorem cal__law_falls_right (T : Gb mg) (C : C__law_falls_right P w K mg base) (D : Dfn K mg "_law_falls_right" s__law_falls_right) : C8.Cal P w K mg base 13 "_law_falls_right" (sp__law_falls_right K) [] :=
  calD D sc__law_falls_right bw__law_falls_right (by rintro Rs R ⟨n, rfl, _⟩; rfl) (fun f cdv A outer s H E hr => der__law_falls_right T C cdv A outer s H E hr) (by
    rintro Rs R d ⟨g, rfl, hg1, hg6, rfl⟩ H0 σ H a Q q
    refine w_seq (w_asgGA a (e_callD List.mem_cons_self (a_cons (e_var rfl) (a_cons (e_var rfl) a_nil)) ⟨g, rfl, hg1, hg6, rfl⟩) (fun z hz => g_pair) fun z hz σ1 H1 a1 => ?_)
    obtain ⟨f, most⟩ := z
    obtain ⟨⟨av, hpf⟩, hbd, hm6⟩ := hz
    dsimp only at hpf hbd hm6 a1
    have hfl : f.length = g + 1 := by have := hpf.len; omega
    let φ : (Int × Int) × (Int × Int) → Prop := fun t => Bd 2 [t.1.1, t.1.2] ∧ Bd 2 [t.2.1, t.2.2] ∧ t.1.1 * t.2.2 ≠ t.1.2 * t.2.1
    have ch : ∀ t, φ t → Bd 199 (changed [t.1.1, t.1.2] [t.2.1, t.2.2] f) ∧ (changed [t.1.1, t.1.2] [t.2.1, t.2.2] f).length = g + 1 := fun t ht =>
      ⟨(bd_changed ht.1 ht.2.1 rfl rfl hbd (by omega)).mono (by omega), by rw [changed_length rfl rfl, hfl]⟩
    refine w_seq (w_setA (φ := φ) (F := fun t => TuI K (inv (changed [t.1.1, t.1.2] [t.2.1, t.2.2] f))) a1 (e_callE (Rs := [AnyR φ fun t => SiR K 511 (changed [t.1.1, t.1.2] [t.2.1, t.2.2] f)]) (a_cons (e_makeE (F := fun t => TuI K (changed [t.1.1, t.1.2] [t.2.1, t.2.2] f)) (e_callE (Rs := [TuI K f, AnyR φ fun t => TabR K t.1.1 t.1.2 t.2.1 t.2.2]) (a_cons (e_var rfl) (a_cons (e_callD List.mem_cons_self (a_cons (e_var rfl) (a_cons e_c a_nil)) ⟨2, rfl, by decide, by decide, rfl⟩) a_nil)) fun vs H p => ?_) (fun t ht => .inl ⟨rfl, (ch t ht).1, by rw [(ch t ht).2]; omega, by rw [(ch t ht).2]; omega⟩)) a_nil) fun vs H p => ?_) fun t ht σ2 H2 a2 => ?_)
    · obtain ⟨u, v, rfl, p1, t, ht, p2⟩ := ps2 p
      exact ⟨_, _, ⟨f, _, _, _, _, rfl, by omega, by omega, hbd.mono (by omega), ht.1, ht.2.1, rfl⟩, ⟨p1, p2, trivial⟩, fun v H' e => ⟨t, ht, e⟩⟩
    · obtain ⟨u, rfl, t, ht, p1⟩ := ps1 p
      exact ⟨_, _, ⟨_, rfl, by rw [(ch t ht).2]; omega, by rw [(ch t ht).2]; omega, (ch t ht).1.mono (by omega), rfl⟩, ⟨p1, trivial⟩, fun v H' e => ⟨t, ht, e⟩⟩
    have F := hpf.falls hg1 hg6 t.1.1 t.1.2 t.2.1 t.2.2 ht.2.2
    have hz := shg_zero (inv (changed [t.1.1, t.1.2] [t.2.1, t.2.2] f))
    have hb : (!decide (decide (shg (inv (changed [t.1.1, t.1.2] [t.2.1, t.2.2] f)) = 0) = decide ((g : Int) < 2 * (most : Int)))) = false := by
      have e : decide (shg (inv (changed [t.1.1, t.1.2] [t.2.1, t.2.2] f)) = 0) = decide ((g : Int) < 2 * (most : Int)) := by
        rw [decide_eq_decide, hz, F.1]; omega
      rw [decide_eq_true e]; rfl
    refine w_seq (w_if a2 (t_test ((e_neB (e_eqI (e_call (a_cons (e_var rfl) a_nil) ⟨_, rfl, rfl⟩) e_c) (e_opI0 (e_opI e_c (e_var rfl) (.inl (by decide))) (e_var rfl))).isB hb)) (fun z => by cases z) fun _ H3 a3 => w_next ?_)
    by_cases e : (2 * (most : Int)) = (g : Int)
    · have hb2 : (!decide ((2 * (most : Int)) = (g : Int)) || true) = true := by simp
      exact w_ret a3 (R := IsB true) ((e_orV (e_neI (e_opI e_c (e_var rfl) (.inl (by decide))) (e_var rfl)) fun _ => e_notIn0 e_c (e_var rfl) (F.2 (by omega))).isB hb2) fun v H' a' p => q v H' a'.kp a'.me p
    · have hb2 : (!decide ((2 * (most : Int)) = (g : Int)) || false) = true := by simp [e]
      exact w_ret a3 (R := IsB true) ((e_orV (b := false) (e_neI (e_opI e_c (e_var rfl) (.inl (by decide))) (e_var rfl)) fun z => by simp [e] at z).isB hb2) fun v H' a' p => q v H' a'.kp a'.me p)
theorem calG__law_right (T : Gb mg) (C : C__law_right P w K mg base) (D : Dfn K mg "_law_right" s__law_right) : CalG P w K mg base 13 "_law_right" (sp__law_right K) :=
  calGD D sc__law_right bw__law_right (by rintro Rs R ⟨n, rfl, _⟩; rfl) (fun f cdv A outer s H E hgd hr => der__law_right T C hgd cdv outer s H E hr) (by
    rintro Rs R d ⟨g, rfl, hg1, hg6, rfl⟩ H0 σ H a Q q
    have m0 : ∀ {ms : Ms}, (d, Dice) ∈ (d, Dice) :: ms := List.mem_cons_self
    refine w_seq (w_asgG a (e_tup (K := K) (a_cons (e_callD m0 (a_cons (e_var rfl) (a_cons (e_var rfl) a_nil)) ⟨g, rfl, hg1, hg6, rfl⟩) (a_cons (e_callD m0 (a_cons (e_var rfl) (a_cons e_c a_nil)) ⟨3, rfl, by decide, by decide, rfl⟩) a_nil)) (by simp)) g_pair fun σ1 H1 a1 => ?_)
    obtain ⟨f, ⟨hfl, hbd⟩, a2⟩ := a1.openA (i := 6) rfl
    obtain ⟨⟨⟨t1, t2⟩, ⟨t3, t4⟩⟩, ⟨hta, htb, htd⟩, a3⟩ := a2.openA (i := 7) rfl
    dsimp only at hta htb htd a3
    have hinv := bd_inv hbd (by omega)
    have hil := inv_len hfl hg1 hg6
    obtain ⟨hs12, hs4⟩ := sizes_bd g hg6
    have hsh := bd_short (f := inv f) (hinv.mono (by omega))
    refine w_seq (w_par a3 (a_cons (e_call (a_cons (e_make (a_cons (e_var rfl) a_nil) (.inl ⟨rfl, hbd.mono (by omega), by omega, by omega⟩)) a_nil) ⟨f, rfl, by omega, by omega, hbd.mono (by omega), rfl⟩) (a_cons (e_call (a_cons (e_var rfl) a_nil) ⟨f, rfl, by omega, by omega, hbd.mono (by omega), rfl⟩) a_nil)) fun σ4 H4 a4 => ?_)
    refine w_seq (w_if a4 (t_test ((e_neS (e_reprT (e_var rfl) hsh (by omega)) (e_reprT (e_var rfl) hsh (by omega))).isB (b' := false) (by simp))) (fun z => by cases z) fun _ H5 a5 => w_next ?_)
    have chb := bd_changed hta htb rfl rfl hbd (by omega)
    have chl : (changed [t1, t2] [t3, t4] f).length = g + 1 := by rw [changed_length rfl rfl, hfl]
    refine w_seq (w_set a5 (e_call (a_cons (e_make (a_cons (e_call (a_cons (e_var rfl) (a_cons (e_var rfl) a_nil)) ⟨f, t1, t2, t3, t4, rfl, by omega, by omega, hbd.mono (by omega), hta, htb, rfl⟩) a_nil) (.inl ⟨rfl, chb.mono (by omega), by omega, by omega⟩)) a_nil) ⟨_, rfl, by omega, by omega, chb.mono (by omega), rfl⟩) fun σ6 H6 a6 => ?_)
    have hd : (det2 t1 t2 t3 t4).natAbs < 2 ^ 6 := by
      have h1 : t1.natAbs < 4 := hta 0
      have h2 : t2.natAbs < 4 := hta 1
      have h3 : t3.natAbs < 4 := htb 0
      have h4 : t4.natAbs < 4 := htb 1
      have e1 := mul_lt_bits (n := 2) (m := 2) (show t1.natAbs < 2 ^ 2 from h1) (show t4.natAbs < 2 ^ 2 from h4)
      have e2 := mul_lt_bits (n := 2) (m := 2) (show t2.natAbs < 2 ^ 2 from h2) (show t3.natAbs < 2 ^ 2 from h3)
      show (t1 * t4 - t2 * t3).natAbs < 64
      omega
    have hgz : ∀ i, i < (sizes g).length → g * (sizes g).getD i 0 / 2 ≤ 36 := fun i hi => by
      have : (sizes g).getD i 0 ≤ 12 := by
        have h := hs12 _ (List.getElem_mem hi)
        simpa [hi] using h
      have : g * (sizes g).getD i 0 ≤ 6 * 12 := Nat.mul_le_mul hg6 this
      omega
    have csz : ∀ i, co ((sizes g).map fun n : Nat => (n : Int)) i = ((sizes g).getD i 0 : Nat) := fun i => by
      unfold co
      by_cases h : i < (sizes g).length
      · simp [h]
      · simp [h]
    have gsz : ∀ i, ((sizes g).map fun n : Nat => (n : Int)).getD i 0 = ((sizes g).getD i 0 : Nat) := csz
    have hlw : (lw (det2 t1 t2 t3 t4) g).length = (sizes g).length := by unfold lw; rw [List.length_map]
    have hI := ij_tupI (K := K) (e_call (E := E0) (S := fun Rs R => ∃ (d : Nat), Rs = [IsI (d : Int)] ∧ 1 ≤ d ∧ d ≤ 6 ∧ R = TuI K ((sizes d).map fun n : Nat => (n : Int))) (c := ⟨H0, [d], []⟩) (rs := [some (IsV (.ref d)), some (IsI (g : Int)), some (TuI K (inv (changed [t1, t2] [t3, t4] f))), none, none, none, some (TuI K f), some (TabR K t1 t2 t3 t4), some (TuI K (inv f)), some (TuI K (inv f)), none, none, none]) (ms := [(d, Dice)]) (a_cons (e_var (i := 1) rfl) a_nil) ⟨g, rfl, hg1, hg6, rfl⟩)
    rw [List.length_map] at hI
    have hP : EL ⟨H0, [d], []⟩ [some (IsV (.ref d)), some (IsI (g : Int)), some (TuI K (inv (changed [t1, t2] [t3, t4] f))), none, none, none, some (TuI K f), some (TabR K t1 t2 t3 t4), some (TuI K (inv f)), some (TuI K (inv f)), none, none, none] [(d, Dice)] (tLc (iTup K (tCall (sp__law_sizes K) [] E0 (tCons (tVar 1) tNil))) (gName 10) tYes (tCall (sp__law_raised K) [] E0 (tCons (tCall (sp__law_det K) [] E0 (tCons (tVar 7) tNil)) (tCons (tOp rDivI (tOp rMulI (tVar 1) (tVar 10)) (tC (.int 2))) tNil))) [10]) ((lw (det2 t1 t2 t3 t4) g).map IsI) := by
      refine el_lcI0 (vs := [10]) (g := gName 10) (te := tCall (sp__law_raised K) [] E0 (tCons (tCall (sp__law_det K) [] E0 (tCons (tVar 7) tNil)) (tCons (tOp rDivI (tOp rMulI (tVar 1) (tVar 10)) (tC (.int 2))) tNil))) (n := (sizes g).length) (f := fun i => det2 t1 t2 t3 t4 ^ (g * (sizes g).getD i 0 / 2)) (rs' := fun i => [some (IsV (.ref d)), some (IsI (g : Int)), some (TuI K (inv (changed [t1, t2] [t3, t4] f))), none, none, none, some (TuI K f), some (TabR K t1 t2 t3 t4), some (TuI K (inv f)), some (TuI K (inv f)), some (IsI (((sizes g).map fun n : Nat => (n : Int)).getD i 0)), none, none]) (ns := lw (det2 t1 t2 t3 t4) g) hI (by omega) (fun i hi c ms => g_name) (fun i hi x D acc => ?_) (List.ext_getElem (by rw [hlw]; simp [tab]) fun i h1 h2 => ?_)
      · have e1 : ((g : Int) * ((sizes g).getD i 0 : Nat)) / 2 = ((g * (sizes g).getD i 0 / 2 : Nat) : Int) := by
          rw [← Int.natCast_mul]; rfl
        refine e_call (a_cons (e_call (a_cons (e_var rfl) a_nil) ⟨t1, t2, t3, t4, rfl, hta, htb, rfl⟩) (a_cons (R := IsI ((g * (sizes g).getD i 0 / 2 : Nat) : Int)) (e1 ▸ e_opI (e_opI (e_var rfl) ((e_var (R := IsI (((sizes g).map fun n : Nat => (n : Int)).getD i 0)) rfl).weak fun v H h => by rw [gsz] at h; exact h) (.inl (by omega))) e_c ⟨by decide, by decide⟩) a_nil)) ⟨_, _, rfl, Nat.lt_of_lt_of_le hd (Nat.pow_le_pow_right (by decide) (by decide)), ?_, rfl⟩
        have := hgz i hi
        omega
      · have hi : i < (sizes g).length := by rw [hlw] at h1; exact h1
        simp [lw, tab, hi]
    refine w_seq (w_setL (ns := lw (det2 t1 t2 t3 t4) g) a6 hP fun p σ7 H7 a7 => ?_)
    -- the changed form's invariants
    have e1 : inv (changed [t1, t2] [t3, t4] f) = List.zipWith (fun w n => w * n) (lw (det2 t1 t2 t3 t4) g) (inv f) := inv_changed t1 t2 t3 t4 hfl hg1 hg6
    have hzl : (lw (det2 t1 t2 t3 t4) g).length = (inv f).length := by rw [hlw, hil]
    have cmp : EJ ⟨H0, [d], []⟩ [some (IsV (.ref d)), some (IsI (g : Int)), some (TuI K (inv (changed [t1, t2] [t3, t4] f))), some (IsV (.ref p)), none, none, some (TuI K f), some (TabR K t1 t2 t3 t4), some (TuI K (inv f)), some (TuI K (inv f)), none, none, none] [(p, (· = (lw (det2 t1 t2 t3 t4) g).map V.int)), (d, Dice)] (tOp (rNeD K) (tCB (rListOf K) (tCons (tVar 2) tNil)) (tLc (iZipM K (tCons (tVar 3) (tCons (tVar 9) tNil))) (L2.gTup K 2 (gCons (gName 11) (gCons (gName 12) gNil))) tYes (tOp rMulW (tVar 11) (tVar 12)) [11, 12])) (IsB (!decide (inv (changed [t1, t2] [t3, t4] f) = List.zipWith (fun w n => w * n) (lw (det2 t1 t2 t3 t4) g) (inv f)))) :=
      e_neLL (el_listI (e_var rfl)) (el_lcI (vs := [11, 12]) (is := [11, 12]) (n := (inv f).length) (f := fun i => co (lw (det2 t1 t2 t3 t4) g) i * co (inv f) i) (ij_zipM (K := K) List.mem_cons_self (a_cons (e_var rfl) (a_cons (e_var rfl) a_nil)) hzl) (fun m hm => by
        have : m = (p, (· = (lw (det2 t1 t2 t3 t4) g).map V.int)) := by simpa using hm
        subst this; exact List.mem_cons_self) (fun i hi => hi) (by omega) (fun i hi c ms => g_pair) (fun i hi x D acc => e_opI (e_var rfl) (e_var rfl) (by
          have hi2 : i < (sizes g).length := by omega
          have e2 : co (lw (det2 t1 t2 t3 t4) g) i = det2 t1 t2 t3 t4 ^ (g * (sizes g).getD i 0 / 2) := by
            rw [co_lt (by omega)]; simp [lw, hi2]
          have h5 := pow_bits hd (g * (sizes g).getD i 0 / 2)
          have h6 := hgz i hi2
          rw [← e2] at h5
          exact cmulw h5 (hinv i) (by omega))) (List.ext_getElem (by simp [tab, hzl]) fun i h1 h2 => by
            have h3 : i < (inv f).length := by simp [tab] at h2; exact h2
            simp [tab, co_lt h3, co_lt (show i < (lw (det2 t1 t2 t3 t4) g).length by omega)]))
    refine w_seq (w_if a7 (t_test (cmp.isB (b' := false) (by rw [decide_eq_true e1]; rfl))) (fun z => by cases z) fun _ H8 a8 => w_next ?_)
    -- a multiple's invariants
    refine w_seq (w_setA (φ := fun x : Int => 1 ≤ x ∧ x ≤ 5) (F := IsI) a8 (e_opN0 (g := fun i j => i + j) (φ := (· = 1)) (ψ := fun r => 0 ≤ r ∧ r < 5) (EJ.one e_c) (e_callD (List.mem_cons_of_mem _ List.mem_cons_self) (a_cons (e_var rfl) (a_cons e_c a_nil)) ⟨5, rfl, by decide, by decide, rfl⟩) (fun i j h1 h2 => by omega)) fun x hx σ9 H9 a9 => ?_)
    have hxb : x.natAbs < 2 ^ 3 := by show _ < 8; omega
    have scb := bd_scaled hbd hxb
    have scl : (scaled f x).length = g + 1 := by rw [scaled_length, hfl]
    refine w_seq (w_set a9 (e_call (a_cons (e_make (a_cons (e_call (a_cons (e_var rfl) (a_cons (e_var rfl) a_nil)) ⟨f, x, rfl, by omega, hbd.mono (by omega), Nat.lt_of_lt_of_le hxb (Nat.pow_le_pow_right (by decide) (by decide)), rfl⟩) a_nil) (.inl ⟨rfl, scb.mono (by omega), by omega, by omega⟩)) a_nil) ⟨_, rfl, by omega, by omega, scb.mono (by omega), rfl⟩) fun σ10 H10 a10 => ?_)
    have e2 : inv (scaled f x) = tab (inv f).length (fun i => co (inv f) i * x ^ (sizes g).getD i 0) := by
      rw [inv_scaled hfl hg1 hg6]
      refine List.ext_getElem (by simp [tab, hil]) fun i h1 h2 => ?_
      have h3 : i < (inv f).length := by simp [tab] at h2; exact h2
      have h4 : i < (sizes g).length := by omega
      simp [tab, co_lt h3, h4, Int.mul_comm]
    have hb3 : decide (inv (scaled f x) = tab (inv f).length (fun i => co (inv f) i * x ^ (sizes g).getD i 0)) = true := decide_eq_true e2
    let rz : List (Option Rl) := [some (IsV (.ref d)), some (IsI (g : Int)), some (TuI K (inv (changed [t1, t2] [t3, t4] f))), some (IsV (.ref p)), some (IsI x), some (TuI K (inv (scaled f x))), some (TuI K f), some (TabR K t1 t2 t3 t4), some (TuI K (inv f)), some (TuI K (inv f)), none, none, none]
    let mz : Ms := [(p, (· = (lw (det2 t1 t2 t3 t4) g).map V.int)), (d, Dice)]
    have hsz : EJ ⟨H0, [d], []⟩ rz mz (tCall (sp__law_sizes K) [] E0 (tCons (tVar 1) tNil)) (TuI K ((sizes g).map fun n : Nat => (n : Int))) := e_call (a_cons (e_var rfl) a_nil) ⟨g, rfl, hg1, hg6, rfl⟩
    have hz := ij_zipT (K := K) (n := (inv f).length) (xs := inv f) (ys := (sizes g).map fun n : Nat => (n : Int)) (a_cons (e_var (c := ⟨H0, [d], []⟩) (rs := rz) (ms := mz) (i := 9) rfl) (a_cons hsz a_nil)) (by rw [List.length_map, hil, Nat.min_self])
    have hE : EL ⟨H0, [d], []⟩ rz mz (tLc (RZ.iZipA K (tCons (tVar 9) (tCons (tCall (sp__law_sizes K) [] E0 (tCons (tVar 1) tNil)) tNil))) (L2.gTup K 2 (gCons (gName 12) (gCons (gName 10) gNil))) tYes (tOp rMulW (tVar 12) (tCall (sp__law_raised K) [] E0 (tCons (tVar 4) (tCons (tVar 10) tNil)))) [12, 10]) ((tab (inv f).length (fun i => co (inv f) i * x ^ (sizes g).getD i 0)).map IsI) := by
      refine el_lcI0 (vs := [12, 10]) (n := (inv f).length) (f := fun i => co (inv f) i * x ^ (sizes g).getD i 0) (rs' := fun i => [some (IsV (.ref d)), some (IsI (g : Int)), some (TuI K (inv (changed [t1, t2] [t3, t4] f))), some (IsV (.ref p)), some (IsI x), some (TuI K (inv (scaled f x))), some (TuI K f), some (TabR K t1 t2 t3 t4), some (TuI K (inv f)), some (TuI K (inv f)), some (IsI (((sizes g).map fun n : Nat => (n : Int)).getD i 0)), none, some (IsI ((inv f).getD i 0))]) hz (by omega) (fun i hi c ms => g_pair) (fun i hi y D acc => ?_) rfl
      have hi2 : i < (sizes g).length := by omega
      have h6 : (sizes g).getD i 0 ≤ 12 := by
        have h := hs12 _ (List.getElem_mem hi2)
        simpa [hi2] using h
      have hpw : EJ (Ct.add ⟨H0, [d], []⟩ y) _ ((D, (· = acc)) :: mz) (tCall (sp__law_raised K) [] E0 (tCons (tVar 4) (tCons (tVar 10) tNil))) (IsI (x ^ (sizes g).getD i 0)) := e_call (Rs := [IsI x, IsI (((sizes g).getD i 0 : Nat) : Int)]) (a_cons (e_var (rs := [some (IsV (.ref d)), some (IsI (g : Int)), some (TuI K (inv (changed [t1, t2] [t3, t4] f))), some (IsV (.ref p)), some (IsI x), some (TuI K (inv (scaled f x))), some (TuI K f), some (TabR K t1 t2 t3 t4), some (TuI K (inv f)), some (TuI K (inv f)), some (IsI (((sizes g).map fun n : Nat => (n : Int)).getD i 0)), none, some (IsI ((inv f).getD i 0))]) rfl) (a_cons ((e_var (R := IsI (((sizes g).map fun n : Nat => (n : Int)).getD i 0)) rfl).weak fun v H h => by rw [gsz] at h; exact h) a_nil)) ⟨x, (sizes g).getD i 0, rfl, Nat.lt_of_lt_of_le hxb (Nat.pow_le_pow_right (by decide) (by decide)), by omega, rfl⟩
      exact e_opI (i := (inv f).getD i 0) (e_var rfl) hpw (cmulw (hinv i) (pow_bits hxb _) (by omega))
    have cmp2 : EJ ⟨H0, [d], []⟩ rz mz (tOp (rEqD K) (tCB (rListOf K) (tCons (tVar 5) tNil)) _) (IsB (decide (inv (scaled f x) = tab (inv f).length (fun i => co (inv f) i * x ^ (sizes g).getD i 0)))) := e_eqLL (el_listI (e_var rfl)) hE
    exact w_ret a10 (R := IsB true) (cmp2.isB hb3) fun v H' a' p => q v H' a'.kp (a'.me.sub fun m hm => by
      have : m = (d, Dice) := by simpa using hm
      subst this; simp) p)
end
end K45
namespace K45
open PySem PySem.Spec PyProof.Rows L2
/-! ### next((x for x in xs if x != 0), 0), the first of xs not 0 -/
section
variable {prog : Program} {w : World} {A : Around} {E : Value → Shared → Prop} {s : Shared}
/-- the code of the generator expression: new, or from the table -/
theorem gx_code {env : Env} {c P : Addr} {gp : Pos} {sco : Scope} {ps : Array Value} (hc : env.code = .ref c) (cd : PySem.W.CodeHd s.heap c P) (hP : s.heap.get? P = some { cls := .none, data := .fields ps }) (ht : TriplesOk ps.toList) :
    wpAny (model prog w) A (genexprCode env gp (env.qual ++ "<genexpr>") sco) (fun _ u => ∃ (hp : Heap) (tk : Nat) (qs : Array Value), u = { s with heap := hp, toks := tk } ∧ hp.get? P = some { cls := .none, data := .fields qs } ∧
      TriplesOk qs.toList ∧ (∃ l, qs = ps ++ l) ∧ s.heap.objs.size ≤ hp.objs.size ∧ Heap.ExtBut P s.heap hp) E s := by
  cases hf : codeAmong gp ps.toList with
  | some cv => exact wpAny_genexprCode_hit hc (cd.code hP ht) hf ⟨s.heap, s.toks, ps, rfl, hP, ht, ⟨#[], by simp⟩, Nat.le_refl _, Heap.ExtBut.refl _ _⟩
  | none =>
    refine wpAny_genexprCodeX hc (cd.code hP ht) (cd.tab hP) hf fun c' hp tk hx hge hlt hco _ htab _ => ?_
    obtain ⟨_, _, _, _, _, _, _, _, _, _, _, _, _, _, _, _, _, _, _, htr, _⟩ := hco
    exact ⟨hp, tk, _, rfl, htab.2, htr, ⟨_, rfl⟩, Nat.le_trans hge (Nat.le_of_lt hlt), hx⟩
/-- next(g, e) of a generator that gives something -/
theorem next_gen {g : Addr} {fp wr : List Addr} {G : Array GenState → Array GenState → Prop} {F : Nat → Value → Prop} {S : Nat → Shared → Prop} {n : Nat} {d : Value} {Q : Value → Shared → Prop}
    (W : WalksS prog w A.in1 g fp wr G n F S) (h0 : S 0 s) (hn : 0 < n) (hT : s.TypeIs (.ref g) "generator") (q : ∀ v s', F 0 v → Moved wr G s s' → Q v s') : wpAny (model prog w) A (call (.builtin "next") [.ref g, d]) Q E s := by
  refine Calls.call_function_entry (by decide +kernel) (by decide +kernel) PySem.W.kdk_entry_next (PySem.W.kdk_args_next2 _ _) ?_
  unfold Builtin.«next»
  refine wpAny_bind (m := someArgs "next" 1 2 _) (wpAny_of_eq (a := [Value.ref g, d]) (by first | rfl | kernel_rfl!) ?_)
  dsimp only
  refine wpAny_bind (wpAny_specialOf (name := Str.ofString "__next__") hT slot_gen_next.lookup ?_)
  refine wpAny_ite_split (fun hab => absurd hab (by decide)) fun _ => ?_
  refine wpAny_bind (W.item 0 s _ _ hn h0 fun v s' hF _ hM => ?_)
  exact wpAny_pure ⟨_, rfl, q v s' hF hM⟩
end
section
variable {X : Cx} {pins : List (Addr × Obj)} {σ : L2.St} {H : Hp} {s : Shared}
/-- the test x != 0 of an int -/
theorem test_ne0 {x : Str} {p2 p3 p4 : Pos} {j : Nat} {A' : Around} {E' : Value → Shared → Prop} {ce : Env} {u : Shared} {m : Str → Option Value} {n : Int} {t : Tok} (hk : ce.scope.kind = .function) (hl : ce.scope.names.lookup x = some .local) (hd : (x == ("__debug__" : Str)) = false) (hn : u.heap.Ns ce.locals m) (hm : m x = some (.int n t)) :
    wpAny (model X.prog X.w) A' (forIn [Expr.Compare (.Name x p2) [.NotEq] [.Constant (.int 0) j p3] p4] true fun c r => if r = true then do let ok ← isTrue c ce (eval c ce); pure (ForInStep.yield ok) else pure (ForInStep.yield r)) (fun ok u' => ok = (n != 0) ∧ Keeps u u') E' u := by
  simp only [List.forIn_cons, List.forIn_nil, if_true]
  refine wpAny_bind (wpAny_bind ?_)
  refine wpAny_isTrue_Compare1 ?_
  refine wpAny_Name (wpAny_loadName_local hk hl hn hm ?_) hd
  refine wpAny_Constant_int ?_
  refine PySem.P.ne_int ?_
  exact wpAny_pure (wpAny_pure (wpAny_pure ⟨rfl, GxR.keeps_tok _ _⟩))
/-- what the generator gives first: the head, not 0 -/
theorem pass_first {n : Int} {ns : List Int} (h : n ≠ 0) : passing (fun i => co (n :: ns) i != 0) (n :: ns).length 0 = 0 :: passing (fun i => co (n :: ns) i != 0) (n :: ns).length 1 :=
  passing_true (by simp) (by show (n != 0) = true; simpa using h)
def tFirst (K : PySem.W.Frag) (P : Addr) (te : TE) : TE := fun σ H Q => te σ H fun v H1 => ∃ (yl : Addr) (n : Int) (ns : List Int), v = .ref yl ∧ SqL K H1 yl ((n :: ns).map V.int) ∧ n ≠ 0 ∧ GxR.TabG H1 P ∧ ∀ H2, GxR.Tabbed P H1 H2 → Q (.int n) H2
theorem pe_first {c P : Addr} {iter : Expr} {x : Str} {p0 p1 p2 p3 p4 p5 px pos gp : Pos} {j j' : Nat} {sco : Scope} {te : TE} {k : Nat}
    (hr : Room k X.A) (hg : Gl X "next") (hm : X.mg "next" = none) (TB : GxR.TabB X.base X.mg c P) (hcode : X.env.code = .ref c) (S : GxR.GenS X.env sco x) (hi : PE X iter te) (hdb : (x == ("__debug__" : Str)) = false) (hs : ∀ v, genFold iter X.env v = pure v)
    (he : starEach [.GeneratorExp (.Name x p1) [⟨.Name x px, iter, [.Compare (.Name x p2) [.NotEq] [.Constant (.int 0) j p3] p4], 0⟩] sco gp, .Constant (.int 0) j' p5] X.env = (false, eval (.GeneratorExp (.Name x p1) [⟨.Name x px, iter, [.Compare (.Name x p2) [.NotEq] [.Constant (.int 0) j p3] p4], 0⟩] sco gp) X.env) :: (false, eval (.Constant (.int 0) j' p5) X.env) :: starEach [] X.env := by rfl) :
    PE X (.Call (.Name "next" p0) [.GeneratorExp (.Name x p1) [⟨.Name x px, iter, [.Compare (.Name x p2) [.NotEq] [.Constant (.int 0) j p3] p4], 0⟩] sco gp, .Constant (.int 0) j' p5] [] pos) (tFirst X.K P te) := by
  refine ⟨fun pins s σ H Q I h => ?_⟩
  refine wpAny_Call_Name_kw (ld_blt I hg hm (u := .builtin "next") (by decide +kernel) ?_)
  rw [he]
  refine Calls.callWith_builtin rfl (Calls.evalArgs_plain (Calls.spliced_cons ?_))
  refine wpAny_GeneratorExp_walksQ hr.hd S.co (closure_ok S.free) S.cell S.dot S.loc S.kind (by have := hr.dp; omega) ?_ hs
  refine thn (hi.run pins s σ H _ I h) fun xv s1 ⟨v, H1, I1, r1, yl, n, ns, ev, hyl, hn0, ⟨ps, hP, ht⟩, q1⟩ => ?_
  subst ev
  obtain rfl : xv = Value.ref yl := r1
  obtain ⟨its, rv, hl, _⟩ := I1.list hyl
  have hIL := hl.isList
  have hlen : its.length = (n :: ns).length := by rw [← rv.length, List.length_map]
  have item : ∀ (i : Nat) (v : Value), its.toArray[i]? = some v → ∃ t : Tok, v = .int (co (n :: ns) i) t := fun i v hv => by
    have h1 : its[i]? = some v := by simpa using hv
    have h2 : i < (n :: ns).length := by have := (List.getElem?_eq_some_iff.mp h1).1; omega
    obtain ⟨u, e1, ⟨t, e2⟩⟩ := rv.get (i := i) (x := V.int (co (n :: ns) i)) (by rw [List.getElem?_map, co_get? h2]; rfl)
    rw [h1] at e1
    exact ⟨t, (Option.some.inj e1).trans e2⟩
  refine wpAny_pyIter_list hIL ?_
  generalize ho : ({ cls := .type "list_iterator", data := .fields #[.ref yl, .int 0 0] } : Obj) = o
  have hit : (s1.heap.push o).IsListIter s1.heap.objs.size yl 0 := by
    subst ho; exact ⟨_, Heap.get?_push_size _ rfl, rfl, rfl⟩
  have ly : yl < s1.heap.objs.size := let ⟨_, e, _⟩ := id hIL; Heap.lt_size e
  have gP := I1.hok P _ hP
  have lP : P < s1.heap.objs.size := Heap.lt_size gP
  have lim := I1.nolimit
  have lcs : cStatics < s1.heap.objs.size := let ⟨_, z, _⟩ := lim; z.lt
  have ncs : cStatics ≠ P := fun e => by
    obtain ⟨_, ⟨_, _, _, z1, z2, _⟩, _⟩ := id lim
    rw [e] at z1
    have z3 := z1.symm.trans gP
    cases z3; cases z2
  refine ⟨lim.push o, ?_⟩
  refine wpAny_mono (gx_code hcode (TB.code.keeps fun b u e => Heap.get?_push_of_some _ (I1.bk b u e)) (Heap.get?_push_of_some _ gP) ht) (fun code s3 hc => ?_) fun _ _ e => e
  obtain ⟨hp, tk, qs, rfl, gQ, hq, hmore, hsz, hx⟩ := hc
  have sz : (s1.heap.push o).objs.size = s1.heap.objs.size + 1 := Heap.size_push ..
  have kp : ∀ b u, b ≠ P → s1.heap.get? b = some u → hp.get? b = some u := fun b u hb e => hx b u hb (Heap.get?_push_of_some _ e)
  obtain ⟨bm, ob, e1, e2, e3, e4, e5, e6, e7, e8⟩ := TB.bm
  refine wpAny_builtinsFor (m := X.mg) (by rw [I1.ok.glob]; exact ((I1.mod.glob.keeps I1.bk).push o).extBut hx TB.gP) e1 e2 (kp _ _ e4 (I1.bk _ _ e5)) e6 e7 e8 ?_
  have nyP : yl ≠ P := fun z => by
    obtain ⟨_, z1, _, _, z2⟩ := id hIL
    rw [z] at z1
    have z3 := z1.symm.trans gP
    cases z3; cases z2
  have hIL3 : hp.IsList yl its.toArray := let ⟨_, z, r⟩ := id hIL; ⟨_, kp _ _ nyP z, r⟩
  have hit3 : hp.IsListIter s1.heap.objs.size yl 0 := hit.at fun u e => hx _ u (Nat.ne_of_gt lP) e
  have hpz : its.toArray.size = (n :: ns).length := by rw [List.size_toArray, hlen]
  refine ⟨s1.heap.objs.size, [s1.heap.objs.size, yl], [s1.heap.objs.size], its.toArray.size, (fun i v => its.toArray[i]? = some v), (fun i h => h.IsListIter s1.heap.objs.size yl i ∧ h.IsList yl its.toArray), (fun i => co (n :: ns) i != 0),
    (fun i y => ∃ t : Tok, y = .int (co (n :: ns) i) t), rfl, (fun A' hA => Walks.list hA _ _ (Nat.ne_of_lt ly) _), ⟨hit3, hIL3⟩, fun b hb => ?_, (lim.push o).extBut hx ncs, fun z => ?_, fun href hh => ⟨fun A' E' i v u m hA hv hn hm' _ => ?_, fun A' E' i v u m hA hv _ hn hm' _ => ?_⟩, ?_⟩
  · show b < hp.objs.size
    have hz : s1.heap.objs.size + 1 ≤ hp.objs.size := by rw [← sz]; exact hsz
    have : b = s1.heap.objs.size ∨ b = yl := by simpa using hb
    rcases this with z | z
    · rw [z]; exact hz
    · rw [z]; exact Nat.lt_of_lt_of_le ly (Nat.le_of_succ_le hz)
  · have : cStatics = s1.heap.objs.size := by simpa using z
    exact Nat.ne_of_lt lcs this
  · obtain ⟨t, rfl⟩ := item i v hv
    exact test_ne0 S.kind S.loc hdb hn hm'
  · obtain ⟨t, rfl⟩ := item i v hv
    refine wpAny_Name (wpAny_loadName_local S.kind S.loc hn hm' ?_) hdb
    exact ⟨⟨t, rfl⟩, GxR.keeps_refl _⟩
  · intro g h5 tk5 gs hgb hag hs5 hk5 W5 hat
    refine Calls.spliced_cons (wpAny_Constant_int (k := j') (pos := p5) ?_)
    refine Calls.spliced_nil ?_
    have hpos : 0 < (passing (fun i => co (n :: ns) i != 0) its.toArray.size 0).length := by rw [hpz, pass_first hn0]; simp
    have hM : ∀ s' : Shared, Moved (hp.objs.size :: [s1.heap.objs.size]) (GenOnlyQ s1.gens.size) { s1 with heap := h5, gens := s1.gens.push gs, toks := tk5 + 1 } s' → ∃ H2, GxR.Tabbed P H1 H2 ∧ Inv X pins σ H2 s' := fun s' hm => by
      obtain ⟨more, em⟩ := hmore
      have nw : ∀ b u, s1.heap.get? b = some u → b ∉ hp.objs.size :: [s1.heap.objs.size] := fun b u e hb => by
        have h1 := Heap.lt_size e
        have hz : s1.heap.objs.size + 1 ≤ hp.objs.size := by rw [← sz]; exact hsz
        have : b = hp.objs.size ∨ b = s1.heap.objs.size := by simpa using hb
        rcases this with z | z
        · rw [z] at h1; exact Nat.lt_irrefl _ (Nat.lt_of_lt_of_le h1 (Nat.le_of_succ_le hz))
        · rw [z] at h1; exact Nat.lt_irrefl _ h1
      have J := GxR.inv_tab (more := more) (h' := s'.heap) (g' := s'.gens) (d' := s'.drawn) (t' := s'.toks) I1 hP (fun b u hb e => hm.heap b u (nw b u e) (hk5 b u (kp b u hb e)))
        (by rw [← em]; exact hm.heap P _ (nw P _ gP) (hk5 P _ gQ)) (AllBare.movedS (I1.bare.push hgb) hm)
      rw [GxR.sh_eta s1 s' hm.os] at J
      exact ⟨_, ⟨⟨ps ++ more, upd_same, by rw [← em]; exact hq⟩, fun b hb => upd_ne hb⟩, J⟩
    refine next_gen (WalksS.of_in1 (A := X.A.in1) W5.in4_2) ?_ hpos ?_ fun v s' hF hm => ?_
    · exact W5.frame 0 _ h5 _ hat (Nat.le_succ _) fun b _ o e => e
    · obtain ⟨hg9, _⟩ := hat
      exact hg9.typeIs
    · obtain ⟨H2, hT, J⟩ := hM s' hm
      obtain ⟨i, hi0, t, ev⟩ := hF
      rw [hpz, pass_first hn0] at hi0
      have ei : 0 = i := Option.some.inj hi0
      subst ei
      exact ⟨.int n, H2, J, ⟨t, ev⟩, q1 H2 hT⟩
end
end K45
namespace K45
open PySem PySem.Spec PyProof.Rows L2
/-! ### the fall chain: what its defs compute -/
def shf (f : List Int) : Int := f.foldl (fun a x => ((Nat.gcd a.natAbs x.natAbs : Nat) : Int)) 0
def wz (f : List Int) : List Int := f.dropWhile fun x => decide (x = 0)
def sm (f : List Int) : List Int := if 1 < shf f then f.map fun x => x / shf f else f
def ab (x : Int) : Int := if x < 0 then -x else x
def sgn (x : Int) : Int := if 0 < x then 1 else -1
def lng (l o : List Int) : List Int := o ++ List.replicate (l.length - o.length) 0
def stp (o l : List Int) : List Int := (tab l.length fun i => ab (co o 0) * co l i - (sgn (co o 0) * co l 0) * co (lng l o) i).drop 1
def small (f : List Int) : Prop := ∀ x ∈ f, x.natAbs < 2 ^ 60
instance (f : List Int) : Decidable (small f) := List.decidableBAll _ _
/-- what is left, with all lists on the way -/
def LBok (o r : List Int) (ls : List (List Int)) (l : List Int) : Prop := l.length ≤ 20 ∧ (o.length ≤ l.length → stp o l ∈ ls) ∧ (l.length < o.length → shf (wz l) < 1073741824 ∧ sm (wz l) = r)
def LB (f o r : List Int) : Prop := 1 ≤ o.length ∧ o.length ≤ 20 ∧ small o ∧ ∃ ls : List (List Int), f ∈ ls ∧ ∀ l ∈ ls, LBok o r ls l
/-- the common part, with all pairs on the way -/
def CO (f o r : List Int) : Prop := ∃ ls : List (List Int × List Int), (f, o) ∈ ls ∧ ∀ p ∈ ls, (p.2 ≠ [] → ∃ z, LB p.1 p.2 z ∧ z.length < p.2.length ∧ (p.2, z) ∈ ls) ∧ (p.2 = [] → p.1 = r ∧ ∃ t, r = 1 :: t ∧ r.length ≤ 20)
def ends (f : List Int) : Nat := f.length - (wz f).length
def CL (f o r : List Int) : Prop := f.length ≤ 20 ∧ o.length ≤ 20 ∧ wz f ≠ [] ∧ wz o ≠ [] ∧ ∃ z, z.length ≤ 20 ∧ CO (wz f) (wz o) z ∧ r = List.replicate (min (ends f) (ends o)) 0 ++ z
def byx (f : List Int) : List Int := tab (f.length - 1) fun i => co f i * ((f.length : Int) - 1 - (i : Int))
def byy (f : List Int) : List Int := (tab f.length fun i => co f i * (i : Int)).drop 1
def LL (f r : List Int) : Prop := 1 ≤ f.length ∧ f.length ≤ 20 ∧ CL (byx f) (byy f) r
/-! ### what they promise -/
abbrev sp_shared_of (K : PySem.W.Frag) : Sp := spP fun Rs R => ∃ f : List Int, Rs = [LfI f] ∧ R = IsI (shf f)
abbrev sp_first_of (K : PySem.W.Frag) : Sp := spT 203 fun Rs R => ∃ (n : Int) (ns : List Int), Rs = [LfI (n :: ns)] ∧ n ≠ 0 ∧ R = IsI n
abbrev sp_primitive_of (K : PySem.W.Frag) : Sp := spT 203 fun Rs R => ∃ t : List Int, Rs = [LfI (1 :: t)] ∧ (1 :: t).length ≤ 20 ∧ R = LfI (1 :: t)
abbrev sp_without_zeros (K : PySem.W.Frag) : Sp := spP fun Rs R => ∃ f : List Int, Rs = [LfI f] ∧ R = LfI (wz f)
abbrev sp_smaller (K : PySem.W.Frag) : Sp := spP fun Rs R => ∃ f : List Int, Rs = [LfI f] ∧ f.length ≤ 20 ∧ shf f < 1073741824 ∧ R = LfI (sm f)
abbrev sp_left_by (K : PySem.W.Frag) : Sp := spP fun Rs R => ∃ f o r : List Int, Rs = [LfI f, LfI o] ∧ LB f o r ∧ R = LfI r
abbrev sp_common_of (K : PySem.W.Frag) : Sp := spT 203 fun Rs R => ∃ f o r : List Int, Rs = [LfI f, LfI o] ∧ CO f o r ∧ R = LfI r
abbrev sp_ends_in (K : PySem.W.Frag) : Sp := spP fun Rs R => ∃ f : List Int, Rs = [LfI f] ∧ R = IsI (ends f : Int)
abbrev sp_common_line (K : PySem.W.Frag) : Sp := spT 203 fun Rs R => ∃ f o r : List Int, Rs = [LfI f, LfI o] ∧ CL f o r ∧ R = LfI r
abbrev sp_lessened_line (K : PySem.W.Frag) : Sp := spT 203 fun Rs R => ∃ f r : List Int, (Rs = [TuI K f] ∨ Rs = [LfI f]) ∧ LL f r ∧ R = LfI r
abbrev sp_most_times_in (K : PySem.W.Frag) : Sp := spT 203 fun Rs R => Rs = [TuI K [0, 0, 1, 0, 0]] ∧ R = IsI 2
abbrev sp_fall_kind (K : PySem.W.Frag) : Sp := spT 203 fun Rs R => Rs = [FmR K [0, 0, 1, 0, 0]] ∧ R = IsV (.str "edge")
theorem shf_take {f : List Int} {i : Nat} (h : i < f.length) : shf (f.take (i + 1)) = ((Nat.gcd (shf (f.take i)).natAbs (co f i).natAbs : Nat) : Int) := by
  unfold shf
  rw [List.take_succ, List.foldl_append, co_get? h]; rfl
theorem shf_one (t : List Int) : shf (1 :: t) = 1 := by
  have : ∀ (t : List Int) (a : Int), a = 1 → t.foldl (fun a x => ((Nat.gcd a.natAbs x.natAbs : Nat) : Int)) a = 1 := fun t => by
    induction t with
    | nil => intro a h; exact h
    | cons x t ih =>
      intro a h
      refine ih _ ?_
      subst h
      show ((Nat.gcd 1 x.natAbs : Nat) : Int) = 1
      rw [Nat.gcd_one_left]; rfl
  exact this t _ rfl
theorem shf_nn (f : List Int) : 0 ≤ shf f := by
  have : ∀ (t : List Int) (a : Int), 0 ≤ a → 0 ≤ t.foldl (fun a x => ((Nat.gcd a.natAbs x.natAbs : Nat) : Int)) a := fun t => by
    induction t with
    | nil => intro a h; exact h
    | cons x t ih => intro a h; exact ih _ (Int.natCast_nonneg _)
  exact this f 0 (Int.le_refl 0)
theorem wz_step {f : List Int} {i : Nat} (h : i < f.length) (h0 : co f i = 0) : wz (f.drop i) = wz (f.drop (i + 1)) := by
  rw [List.drop_eq_getElem_cons h]
  have e : f[i] = 0 := by rw [← co_lt h]; exact h0
  unfold wz
  rw [List.dropWhile_cons, if_pos (by simpa using e)]
theorem wz_stop {f : List Int} {i : Nat} (h : i < f.length → co f i ≠ 0) : wz (f.drop i) = f.drop i := by
  by_cases hl : i < f.length
  · rw [List.drop_eq_getElem_cons hl]
    have e : f[i] ≠ 0 := by rw [← co_lt hl]; exact h hl
    unfold wz
    rw [List.dropWhile_cons, if_neg (by simpa using e)]
  · rw [List.drop_of_length_le (by omega)]; rfl
theorem sgn_small (x : Int) : -(2 ^ 64) < sgn x ∧ sgn x < 2 ^ 64 := by unfold sgn; split <;> decide
theorem co_small {f : List Int} (h : small f) (i : Nat) : (co f i).natAbs < 2 ^ 60 := by
  by_cases hl : i < f.length
  · rw [co_lt hl]; exact h _ (List.getElem_mem hl)
  · rw [co_ge (by omega)]; decide
theorem small_lng {o l : List Int} (h : small o) : small (lng l o) := fun x hx => by
  rcases List.mem_append.mp hx with z | z
  · exact h x z
  · rw [(List.mem_replicate.mp z).2]; decide
theorem stp_len {o l : List Int} (h : 1 ≤ l.length) : (stp o l).length < l.length := by
  unfold stp
  rw [List.length_drop, tab_length]; omega
section
variable {c : Ct} {rs : List (Option Rl)} {ms : Ms} {σ : L2.St} {H H' : Hp} {K : PySem.W.Frag} {R Ra Rb Rc : Rl} {te ta tb : TE} {tt : TT} {tr : TA} {Rs Ws Rs' : List Rl} {E : XK}
theorem kp_tabbed {P : Addr} (h : GxR.TabG H P) (h2 : GxR.Tabbed P H H') : Kp [] H H' := fun a o e _ => by
  by_cases z : a = P
  · subst z
    obtain ⟨ps, e1, k1⟩ := h
    obtain ⟨⟨qs, e2, k2⟩, _⟩ := h2
    rw [e1] at e
    cases e
    exact ⟨qs, e2, fun _ => k2⟩
  · exact St.of (by rw [h2.2 a z]; exact e)
theorem e_first {P : Addr} {n : Int} {ns : List Int} (hg : gTab P ∈ c.gs) (h : EJ c rs ms te (LfI (n :: ns))) (hn : n ≠ 0) : EJ c rs ms (tFirst K P te) (IsI n) := fun σ H a Q q =>
  h σ H a _ fun v H1 a1 k1 ⟨b, o, ev, hb⟩ => ⟨b, n, ns, ev, sql_frz hb, hn, a1.gh _ hg, fun H2 hT => by
    have kk := kp_tabbed (a1.gh _ hg) hT
    exact q _ H2 (a1.grow kk) (k1.trans kk.any) rfl⟩
theorem e_gcd {i j : Int} (ha : EJ c rs ms ta (IsI i)) (hb : EJ c rs ms tb (IsI j)) : EJ c rs ms (tCB rGcd (tCons ta (tCons tb tNil))) (IsI ((Nat.gcd i.natAbs j.natAbs : Nat) : Int)) :=
  e_cb (a_cons ha (a_cons hb a_nil)) fun vs H p Q q => by
    obtain ⟨v, w, rfl, e1, e2⟩ := ps2 p
    exact ⟨i, j, by rw [show v = .int i from e1, show w = .int j from e2], q _ H (Kp.refl _ _) rfl⟩
theorem e_lenFR (h : EJ c rs ms te (LfR Rs)) : EJ c rs ms (tCB (rLen K) (tCons te tNil)) (IsI (Rs.length : Int)) :=
  e_cb (a_cons h a_nil) fun vs H p Q q => by
    obtain ⟨v, rfl, a, xs, o, rfl, h, hp⟩ := ps1 p
    refine ⟨a, _, rfl, .inl (sql_frz h), q _ H (Kp.refl _ _) ?_⟩
    show V.int _ = V.int _
    rw [hp.len]
end
/-! ### what is set is not changed any more -/
def tFzS (i : Nat) (t : TS) : TS := fun D σ H => t { D with nx := fun σ' H' => ∃ d xs, σ'[i]? = some (some (.ref d)) ∧ H' d = some (.lst xs) ∧ ∀ od, D.nx σ' (upd H' d (.frz od (.lst xs))) } σ H
theorem ps_frzS {X : Cx} {st : Stmt} {t : TS} {i : Nat} (h : PS X st t) : PS X st (tFzS i t) := by
  refine ⟨fun pins s σ H D I hw => ?_⟩
  refine thn (h.run pins s σ H _ I hw) fun f s1 h1 => ?_
  cases f with
  | next =>
    obtain ⟨σ', H', I', d, xs, _, e2, q⟩ := h1
    obtain ⟨od, I2⟩ := I'.lock e2 trivial
    exact ⟨σ', _, I2, q od⟩
  | brk => exact h1
  | cont => exact h1
  | ret u => exact h1
section
variable {c : Ct} {rs : List (Option Rl)} {ms : Ms} {σ : L2.St} {H H' : Hp} {K : PySem.W.Frag} {R Ra Rb Rc : Rl} {te ta tb : TE} {tt : TT} {tr : TA} {Rs : List Rl} {nx : L2.St → Hp → Prop} {rt : VK} {bk ct : L2.St → Hp → Prop}
theorem w_setF {i : Nat} (a : At c rs ms σ H) (hi : i < rs.length) (h : EL c rs ms te Rs) (k : ∀ σ' H', At c (rs.set i (some (LfR Rs))) ms σ' H' → nx σ' H') : tFzS i (tAsg te (gName i)) ⟨nx, rt, bk, ct⟩ σ H :=
  h σ H a _ fun p xs H1 a1 _ e1 p1 => ⟨p, xs, by rw [List.getElem?_set_self (by have := a1.len; omega)], e1, fun od => by
    have n : Kp [] (del H1 p) (upd H1 p (.frz od (.lst xs))) := by
      have := Kp.new (H := del H1 p) (p := p) (o := .frz od (.lst xs)) del_same
      rwa [upd_del'] at this
    exact k _ _ ((a1.grow n).set ⟨p, xs, od, rfl, upd_same, p1.mono n.im0⟩)⟩
theorem w_setFI {i : Nat} {ns : List Int} (a : At c rs ms σ H) (hi : i < rs.length) (h : EL c rs ms te (ns.map IsI)) (k : ∀ σ' H', At c (rs.set i (some (LfI ns))) ms σ' H' → nx σ' H') : tFzS i (tAsg te (gName i)) ⟨nx, rt, bk, ct⟩ σ H := by
  refine w_setF a hi h fun σ' H' b => k σ' H' (b.weak (by simp) fun j r e => ?_)
  by_cases z : i = j
  · subst z
    rw [List.getElem?_set_self hi] at e ⊢
    have e2 : LfI ns = r := Option.some.inj (Option.some.inj e)
    subst e2
    exact ⟨_, rfl, fun v p => lr_li.mp p⟩
  · rw [List.getElem?_set_ne z] at e ⊢
    exact ⟨r, e, fun v p => p⟩
end
section
variable {P : Program} {w : World} {K : PySem.W.Frag} {mg : Str → Option Value} {base : Heap} {x q : Str} {st : Stmt} {f : Addr} {fd : FuncData} {N ps : List Str} {k : Nat} {t : TS}
/-- the def whose code object is known -/
structure DfnC (K : PySem.W.Frag) (mg : Str → Option Value) (x : Str) (st : Stmt) (cd : Value) : Prop where
  ex : ∃ (f : Addr) (fd : FuncData), FnP K x st f fd ∧ fd.code = cd ∧ mg x = some (.ref f)
theorem calTC {B : Addr} {cd : Value} {S : List Rl → Rl → Prop} (D : DfnC K mg x st cd) (sc : FnScope N ps (defScope st)) (b : BindsW x st ps) (hl : ∀ Rs R, S Rs R → Rs.length = ps.length)
    (hd : ∀ (f : Addr) (A : Around) (outer : List Env) (s : Shared) (H : Hp) (E : XK), Room k (A.deeper (envOfC x (defScope st) s.heap.objs.size f cd)) → PSs (cxOf CX0 P w K mg base N x (defScope st) f cd A outer s H E).nox (defBody st) t)
    (hs : ∀ Rs R, S Rs R → ∀ H0, SJ t ⟨H0, [], [gTab B]⟩ (rs0 N.length Rs) [] R) : C8.Cal P w K mg base (k + 1) x (spT B S) [] := by
  obtain ⟨f, fd, F, hc, g⟩ := D.ex
  refine ⟨⟨f, fd, ps, [], ?_, g, F.kp, F.bindsN b, .nil⟩⟩
  obtain ⟨oc, od, dV, kV, doc, pm, an, cdv, ct, osl, e, lk, hcd, _, _⟩ := F.ex
  subst e
  have e : cdv = cd := hc
  subst e
  refine fn_of lk hcd sc (fun vs H Q E h => ?_) (fun A outer s H vs Q E hr h => ⟨t, (hd f A outer s H E hr).nox, ?_⟩)
  · obtain ⟨Rs, R, h1, h2, _⟩ := h
    rw [h2.len, hl Rs R h1]
  · obtain ⟨Rs, R, h1, h2, h3, q⟩ := h
    have a := at_start (N := N) (ms := []) (d0 := []) h2 (fun m hm => by cases hm) List.nodup_nil rfl
    exact hs Rs R h1 H _ H ⟨a.kp, a.fr, a.ds, (fun g hg => by
      have : g = gTab B := by simpa using hg
      subst this; exact h3), a.len, a.sl, a.me, a.nd⟩ Q fun v H' k' _ p => q v H' k' p
end
end K45
namespace K45
open PySem PySem.Spec PyProof.Rows L2
local macro_rules | `(tactic| walk_at "ev") => `(tactic| repeat' first
  | exact e_var rfl | exact e_c | exact a_nil | refine a_cons ?_ ?_
  | refine e_opI0 ?_ ?_ | refine e_opI ?_ ?_ ?_ | refine e_eqI ?_ ?_ | refine e_neI ?_ ?_ | refine e_neg ?_
  | refine e_lenI ?_ | refine e_lenR ?_ | refine e_abs ?_ | refine e_max ?_ ?_ | refine e_min ?_ ?_ | refine e_intB ?_ | refine e_intI ?_
  | refine e_chain ?_ ?_ ?_ | refine e_ixI ?_ ?_ ?_ ?_ | refine e_ixR ?_ ?_ ?_ ?_
  | refine e_slHead ?_ ?_ ?_ | refine e_slTail ?_ ?_ ?_
  | refine t_test ?_ | refine t_b ?_ | refine e_ifI ?_ ?_ ?_
  | refine ij_zipT ?_ ?_ | refine ij_tupI ?_ | refine ij_rng ?_ ?_
  | exact g_name | exact g_pair)
local macro_rules | `(tactic| walk_at "evn") => `(tactic| repeat' first
  | exact e_var rfl | exact EJ.any e_c | exact EJ.any (e_var rfl) | exact EJ.anyN (e_var rfl) | refine e_diceC (d := ‹Addr›) List.mem_cons_self ?_ (by decide) | refine e_mulL (φ := fun _ => True) (by decide) ?_ | refine e_mulR (φ := fun _ => True) (by decide) ?_ | exact e_c
  | refine e_a0 ?_ ?_ | refine e_intN ?_)
local macro_rules | `(tactic| walk_at "wk") => `(tactic| repeat' first | exact wk_nil | refine wk_none ?_ | refine wk_some (fun _ _ h => h) ?_)
abbrev N_shared_of : List Str := ["numbers", "found", "number"]
theorem sc_shared_of : FnScope N_shared_of ["numbers"] (defScope s_shared_of) := ⟨rfl, rfl, rfl, by decide +kernel, rfl, by decide +kernel, by decide +kernel⟩
def t_shared_of (K : PySem.W.Frag) : TS := (tSeq (tAsg (tC (.int 0)) (gName 1))
  (tSeq (tFor (iList K (tVar 0)) (gName 2) (tAsg (tCB rGcd (tCons (tVar 1) (tCons (tVar 2) tNil))) (gName 1)))
  (tRet (tVar 1))))
theorem der_shared_of {P : Program} {w : World} {K : PySem.W.Frag} {mg : Str → Option Value} {base : Heap} {f : Addr} (T : Gb mg) (cdv : Value) (A : Around) (outer : List Env) (s : Shared) (H : Hp) (E : XK) (hr : Room 0 (A.deeper (envOfC "shared_of" (defScope s_shared_of) s.heap.objs.size f cdv))) :
    PSs (cxOf CX0 P w K mg base N_shared_of "shared_of" (defScope s_shared_of) f cdv A outer s H E).nox (defBody s_shared_of) (t_shared_of K) :=
  (pss_cons (ps_set (i := 1) sc_shared_of.nd rfl (.inl rfl) pe_int)
      (pss_cons (ps_for PassesOwn.never rfl (pi_list (pv 0)) (pg_name (i := 2) sc_shared_of.nd rfl (Or.inl rfl)) (pss_one (ps_set (i := 1) sc_shared_of.nd rfl (.inl rfl) (pe_callBfun cr_gcd (by rfl) T.gcd_ (pa_cons (pv 1) (pa_cons (pv 2) pa_nil))))))
      (pss_one (ps_ret (pv 1)))))
abbrev N_first_of : List Str := ["numbers", "number"]
theorem sc_first_of : FnScope N_first_of ["numbers"] (defScope s_first_of) := ⟨rfl, rfl, rfl, by decide +kernel, rfl, by decide +kernel, by decide +kernel⟩
def t_first_of (K : PySem.W.Frag) : TS := (tRet (tFirst K 203 (tVar 0)))
theorem der_first_of {P : Program} {w : World} {K : PySem.W.Frag} {mg : Str → Option Value} {base : Heap} {f : Addr} (T : Gb mg) (TB : GxR.TabB base mg 207 203) (cdv : Value) (hcd : cdv = .ref 207) (A : Around) (outer : List Env) (s : Shared) (H : Hp) (E : XK) (hr : Room 0 (A.deeper (envOfC "first_of" (defScope s_first_of) s.heap.objs.size f cdv))) :
    PSs (cxOf CX0 P w K mg base N_first_of "first_of" (defScope s_first_of) f cdv A outer s H E).nox (defBody s_first_of) (t_first_of K) :=
  (pss_one (ps_ret (pe_first hr (by rfl) T.next_ TB hcd ⟨rfl, rfl, by decide +kernel, rfl, rfl, (fun y hy h => ((by decide +kernel : ∀ y ∈ ([(".0", NameKind.local), ("number", NameKind.local)] : List (Str × NameKind)), y.2 ≠ NameKind.free) y hy h).elim)⟩ (pv 0) (by decide) (fun _ => rfl))))
abbrev N_without_zeros : List Str := ["line", "at"]
theorem sc_without_zeros : FnScope N_without_zeros ["line"] (defScope s_without_zeros) := ⟨rfl, rfl, rfl, by decide +kernel, rfl, by decide +kernel, by decide +kernel⟩
def t_without_zeros (K : PySem.W.Frag) : TS := (tSeq (tAsg (tC (.int 0)) (gName 1))
  (tSeq (tWhile (tAnd (tTest (tOp rLtB (tVar 1) (tCB (rLen K) (tCons (tVar 0) tNil)))) (tTest (tOp rEq (tOp (rIxL K) (tVar 0) (tVar 1)) (tC (.int 0))))) (tAug 1 (tC (.int 1)) (ipI fun i j => i + j)))
  (tRet (tFrz (tCB (rListOf K) (tCons (tFrz (tSl (rSlL K) (tVar 0) (tPart (tVar 1)) tNoPart)) tNil))))))
theorem der_without_zeros {P : Program} {w : World} {K : PySem.W.Frag} {mg : Str → Option Value} {base : Heap} {f : Addr} (T : Gb mg) (cdv : Value) (A : Around) (outer : List Env) (s : Shared) (H : Hp) (E : XK) (hr : Room 0 (A.deeper (envOfC "without_zeros" (defScope s_without_zeros) s.heap.objs.size f cdv))) :
    PSs (cxOf CX0 P w K mg base N_without_zeros "without_zeros" (defScope s_without_zeros) f cdv A outer s H E).nox (defBody s_without_zeros) (t_without_zeros K) :=
  (pss_cons (ps_set (i := 1) sc_without_zeros.nd rfl (.inl rfl) pe_int)
      (pss_cons (ps_while PassesOwn.never (PW.pt (pw_and (pt_cmpR op_lt (pv 1) (pe_callB call_len_seq (by rfl) T.len_ (by decide +kernel) (pa_cons (pv 0) pa_nil)) (nomark _)) (pw_and1 (pt_cmpR op_eq (pe_ix ix_list (pv 0) (pv 1) (fun _ _ => rfl)) pe_int (nomark _))))) (pss_one (ps_aug (i := 1) sc_without_zeros.nd rfl (.inl rfl) pe_int ip_add)))
      (pss_one (ps_ret (pe_frz (pe_callTy call_list_of (by rfl) T.list_ (by decide +kernel) (pa_cons (pe_frz (pe_slice sl_list (pv 0) (po_some (pv 1)) po_none)) pa_nil)))))))
abbrev N_smaller : List Str := ["line", "part", "entry"]
theorem sc_smaller : FnScope N_smaller ["line"] (defScope s_smaller) := ⟨rfl, rfl, rfl, by decide +kernel, rfl, by decide +kernel, by decide +kernel⟩
def t_smaller (K : PySem.W.Frag) : TS := (tSeq (tAsg (tCall (sp_shared_of K) [] E0 (tCons (tVar 0) tNil)) (gName 1))
  (tRet (tIf (tTest (tOp rGtB (tVar 1) (tC (.int 1)))) (tFrz (tLc (iList K (tVar 0)) (gName 2) tYes (tOp rDivI (tVar 2) (tVar 1)) [2])) (tFrz (tCB (rListOf K) (tCons (tVar 0) tNil))))))
structure C_smaller (P : Program) (w : World) (K : PySem.W.Frag) (mg : Str → Option Value) (base : Heap) : Prop where
  shared_of_ : C8.Cal P w K mg base 1 "shared_of" (sp_shared_of K) []
theorem der_smaller {P : Program} {w : World} {K : PySem.W.Frag} {mg : Str → Option Value} {base : Heap} {f : Addr} (T : Gb mg) (C : C_smaller P w K mg base) (cdv : Value) (A : Around) (outer : List Env) (s : Shared) (H : Hp) (E : XK) (hr : Room 1 (A.deeper (envOfC "smaller" (defScope s_smaller) s.heap.objs.size f cdv))) :
    PSs (cxOf CX0 P w K mg base N_smaller "smaller" (defScope s_smaller) f cdv A outer s H E).nox (defBody s_smaller) (t_smaller K) :=
  (pss_cons (ps_set (i := 1) sc_smaller.nd rfl (.inr rfl) (C8.pe_c C.shared_of_ hr (by decide) (by rfl) (pa_cons (pv 0) pa_nil)))
      (pss_one (ps_ret (pe_ifExp (pt_cmpR op_gt (pv 1) pe_int (nomark _)) (pe_frz (pe_lc (own := [("entry", 2)]) rfl sc_smaller.nd (pi_list (pv 0)) (blkOk_by (own := [("entry", 2)]) (N := N_smaller) (sc := defScope s_smaller) (by decide +kernel)) (fun _ _ _ _ _ => (pg_name (i := 2) sc_smaller.nd rfl (Or.inl rfl))) (fun _ _ _ _ _ => pts_nil) (fun _ _ _ _ _ => (pe_op op_fdiv (pv 2) (pv 1))))) (pe_frz (pe_callTy call_list_of (by rfl) T.list_ (by decide +kernel) (pa_cons (pv 0) pa_nil)))))))
abbrev N_left_by : List Str := ["one", "other", "sign", "left", "lead", "factor", "longer", "here", "there"]
theorem sc_left_by : FnScope N_left_by ["one", "other"] (defScope s_left_by) := ⟨rfl, rfl, rfl, by decide +kernel, rfl, by decide +kernel, by decide +kernel⟩
def t_left_by (K : PySem.W.Frag) : TS := (tSeq (tAsg (tTup (tCons (tFrz (tCB (rListOf K) (tCons (tVar 0) tNil))) (tCons (tCB rAbsI (tCons (tOp (rIxL K) (tVar 1) (tC (.int 0))) tNil)) tNil))) (L2.gTup K 2 (gCons (gName 3) (gCons (gName 4) gNil))))
  (tSeq (tAsg (tIf (tTest (tOp rGtB (tOp (rIxL K) (tVar 1) (tC (.int 0))) (tC (.int 0)))) (tC (.int 1)) (tUn rNegI (tC (.int 1)))) (gName 2))
  (tSeq (tWhile (tTest (tOp rGeB (tCB (rLen K) (tCons (tVar 3) tNil)) (tCB (rLen K) (tCons (tVar 1) tNil)))) (tSeq (tAsg (tOp rMulI (tVar 2) (tOp (rIxL K) (tVar 3) (tC (.int 0)))) (gName 5))
  (tSeq (tAsg (tFrz (tLst (StX.tStar K (tVar 1) (StX.tStar K (tFrz (tOp rRep (tLst (tCons (tC (.int 0)) tNil)) (tOp rSubI (tCB (rLen K) (tCons (tVar 3) tNil)) (tCB (rLen K) (tCons (tVar 1) tNil))))) tNil)))) (gName 6))
  (tAsg (tFrz (tSl (rSlL K) (tFrz (tLc (RZ.iZipA K (tCons (tVar 3) (tCons (tVar 6) tNil))) (L2.gTup K 2 (gCons (gName 7) (gCons (gName 8) gNil))) tYes (tOp rSubI (tOp rMulI (tVar 4) (tVar 7)) (tOp rMulI (tVar 5) (tVar 8))) [7, 8])) (tPart (tC (.int 1))) tNoPart)) (gName 3)))))
  (tRet (tCall (sp_smaller K) [] E0 (tCons (tCall (sp_without_zeros K) [] E0 (tCons (tVar 3) tNil)) tNil))))))
structure C_left_by (P : Program) (w : World) (K : PySem.W.Frag) (mg : Str → Option Value) (base : Heap) : Prop where
  without_zeros_ : C8.Cal P w K mg base 1 "without_zeros" (sp_without_zeros K) []
  smaller_ : C8.Cal P w K mg base 2 "smaller" (sp_smaller K) []
theorem der_left_by {P : Program} {w : World} {K : PySem.W.Frag} {mg : Str → Option Value} {base : Heap} {f : Addr} (T : Gb mg) (C : C_left_by P w K mg base) (cdv : Value) (A : Around) (outer : List Env) (s : Shared) (H : Hp) (E : XK) (hr : Room 2 (A.deeper (envOfC "left_by" (defScope s_left_by) s.heap.objs.size f cdv))) :
    PSs (cxOf CX0 P w K mg base N_left_by "left_by" (defScope s_left_by) f cdv A outer s H E).nox (defBody s_left_by) (t_left_by K) :=
  (pss_cons (ps_asg (pe_tup (pa_cons (pe_frz (pe_callTy call_list_of (by rfl) T.list_ (by decide +kernel) (pa_cons (pv 0) pa_nil))) (pa_cons (pe_callB call_abs (by rfl) T.abs_ (by decide +kernel) (pa_cons (pe_ix ix_list (pv 1) pe_int (fun _ _ => rfl)) pa_nil)) pa_nil))) (pg_tup rfl (pgs_cons (pg_name (i := 3) sc_left_by.nd rfl (Or.inl rfl)) (pgs_cons (pg_name (i := 4) sc_left_by.nd rfl (Or.inr rfl)) pgs_nil))))
      (pss_cons (ps_set (i := 2) sc_left_by.nd rfl (.inl rfl) (pe_ifExp (pt_cmpR op_gt (pe_ix ix_list (pv 1) pe_int (fun _ _ => rfl)) pe_int (nomark _)) pe_int (pe_un un_neg pe_int)))
      (pss_cons (ps_while PassesOwn.never (pt_cmpR op_ge (pe_callB call_len_seq (by rfl) T.len_ (by decide +kernel) (pa_cons (pv 3) pa_nil)) (pe_callB call_len_seq (by rfl) T.len_ (by decide +kernel) (pa_cons (pv 1) pa_nil)) (nomark _)) (pss_cons (ps_set (i := 5) sc_left_by.nd rfl (.inr rfl) (pe_op op_mul (pv 2) (pe_ix ix_list (pv 3) pe_int (fun _ _ => rfl))))
      (pss_cons (ps_set (i := 6) sc_left_by.nd rfl (.inl rfl) (pe_frz (pe_lst (StX.pa_star (pv 1) (StX.pa_star (pe_frz (pe_op op_rep (pe_lst (pa_cons pe_int pa_nil)) (pe_op op_sub (pe_callB call_len_seq (by rfl) T.len_ (by decide +kernel) (pa_cons (pv 3) pa_nil)) (pe_callB call_len_seq (by rfl) T.len_ (by decide +kernel) (pa_cons (pv 1) pa_nil))))) pa_nil)))))
      (pss_one (ps_set (i := 3) sc_left_by.nd rfl (.inl rfl) (pe_frz (pe_slice sl_list (pe_frz (pe_lc (own := [("here", 7), ("there", 8)]) rfl sc_left_by.nd (RZ.pi_zipA (by rfl) T.zip_ (pa_cons (pv 3) (pa_cons (pv 6) pa_nil))) (blkOk_by (own := [("here", 7), ("there", 8)]) (N := N_left_by) (sc := defScope s_left_by) (by decide +kernel)) (fun _ _ _ _ _ => (pg_tup rfl (pgs_cons (pg_name (i := 7) sc_left_by.nd rfl (Or.inl rfl)) (pgs_cons (pg_name (i := 8) sc_left_by.nd rfl (Or.inl rfl)) pgs_nil)))) (fun _ _ _ _ _ => pts_nil) (fun _ _ _ _ _ => (pe_op op_sub (pe_op op_mul (pv 4) (pv 7)) (pe_op op_mul (pv 5) (pv 8)))))) (po_some pe_int) po_none)))))))
      (pss_one (ps_ret (C8.pe_c C.smaller_ hr (by decide) (by rfl) (pa_cons (C8.pe_c C.without_zeros_ hr (by decide) (by rfl) (pa_cons (pv 3) pa_nil)) pa_nil)))))))
abbrev N_ends_in : List Str := ["entries"]
theorem sc_ends_in : FnScope N_ends_in ["entries"] (defScope s_ends_in) := ⟨rfl, rfl, rfl, by decide +kernel, rfl, by decide +kernel, by decide +kernel⟩
def t_ends_in (K : PySem.W.Frag) : TS := (tRet (tOp rSubI (tCB (rLen K) (tCons (tVar 0) tNil)) (tCB (rLen K) (tCons (tCall (sp_without_zeros K) [] E0 (tCons (tVar 0) tNil)) tNil))))
structure C_ends_in (P : Program) (w : World) (K : PySem.W.Frag) (mg : Str → Option Value) (base : Heap) : Prop where
  without_zeros_ : C8.Cal P w K mg base 1 "without_zeros" (sp_without_zeros K) []
theorem der_ends_in {P : Program} {w : World} {K : PySem.W.Frag} {mg : Str → Option Value} {base : Heap} {f : Addr} (T : Gb mg) (C : C_ends_in P w K mg base) (cdv : Value) (A : Around) (outer : List Env) (s : Shared) (H : Hp) (E : XK) (hr : Room 1 (A.deeper (envOfC "ends_in" (defScope s_ends_in) s.heap.objs.size f cdv))) :
    PSs (cxOf CX0 P w K mg base N_ends_in "ends_in" (defScope s_ends_in) f cdv A outer s H E).nox (defBody s_ends_in) (t_ends_in K) :=
  (pss_one (ps_ret (pe_op op_sub (pe_callB call_len_seq (by rfl) T.len_ (by decide +kernel) (pa_cons (pv 0) pa_nil)) (pe_callB call_len_seq (by rfl) T.len_ (by decide +kernel) (pa_cons (C8.pe_c C.without_zeros_ hr (by decide) (by rfl) (pa_cons (pv 0) pa_nil)) pa_nil)))))
theorem bw_shared_of : BindsW "shared_of" s_shared_of ["numbers"] := fun kV doc pm an cdv ct us h => by
  match us, h with
  | [_], _ => rfl
theorem bw_first_of : BindsW "first_of" s_first_of ["numbers"] := fun kV doc pm an cdv ct us h => by
  match us, h with
  | [_], _ => rfl
theorem bw_without_zeros : BindsW "without_zeros" s_without_zeros ["line"] := fun kV doc pm an cdv ct us h => by
  match us, h with
  | [_], _ => rfl
theorem bw_smaller : BindsW "smaller" s_smaller ["line"] := fun kV doc pm an cdv ct us h => by
  match us, h with
  | [_], _ => rfl
theorem bw_left_by : BindsW "left_by" s_left_by ["one", "other"] := fun kV doc pm an cdv ct us h => by
  match us, h with
  | [_, _], _ => rfl
theorem bw_ends_in : BindsW "ends_in" s_ends_in ["entries"] := fun kV doc pm an cdv ct us h => by
  match us, h with
  | [_], _ => rfl
section
variable {P : Program} {w : World} {K : PySem.W.Frag} {mg : Str → Option Value} {base : Heap}
theorem cal_shared_of (T : Gb mg) (D : Dfn K mg "shared_of" s_shared_of) : C8.Cal P w K mg base 1 "shared_of" (sp_shared_of K) [] :=
  calP D sc_shared_of bw_shared_of (by rintro Rs R ⟨f, rfl, _⟩; rfl) (fun f cdv A outer s H E hr => der_shared_of T cdv A outer s H E hr) (by
    rintro Rs R ⟨f, rfl, rfl⟩ H0 σ H a Q q
    refine w_seq (w_set a e_c fun σ1 H1 a1 => w_seq (w_for a1 (ij_listF (K := K) (ns := f) (e_var rfl)) (fun i => [some (LfI f), some (IsI (shf (f.take i))), none]) (fun i => [some (LfI f), some (IsI (shf (f.take i))), some (IsI (co f i))]) (fun _ => []) (fun c σ H b => b.wk ?_) (fun i m hm => by cases hm) (fun i hi c => g_name) (fun i hi gg nx' bk' ct' σ H b k => w_set b (e_gcd (e_var rfl) (e_var rfl)) fun σ' H' b' => k σ' H' (b'.wk ?_)) fun σ H b => w_ret b (e_var rfl) fun v H' a' p => q v H' a'.kp a'.me ?_))
    · walk_at "wk"
    · refine wk_some (fun _ _ h => h) (wk_some (fun v H h => ?_) (wk_none wk_nil))
      rw [shf_take hi]; exact h
    · rw [List.take_length] at p; exact p)
theorem cal_first_of (T : Gb mg) (TB : GxR.TabB base mg 207 203) (D : DfnC K mg "first_of" s_first_of (.ref 207)) : C8.Cal P w K mg base 1 "first_of" (sp_first_of K) [] :=
  calTC D sc_first_of bw_first_of (by rintro Rs R ⟨n, ns, rfl, _⟩; rfl) (fun f A outer s H E hr => der_first_of T TB _ rfl A outer s H E hr) (by
    rintro Rs R ⟨n, ns, rfl, hn, rfl⟩ H0 σ H a Q q
    exact w_ret a (e_first List.mem_cons_self (e_var rfl) hn) fun v H' a' p => q v H' a'.kp a'.me p)
theorem cal_without_zeros (T : Gb mg) (D : Dfn K mg "without_zeros" s_without_zeros) : C8.Cal P w K mg base 1 "without_zeros" (sp_without_zeros K) [] :=
  calP D sc_without_zeros bw_without_zeros (by rintro Rs R ⟨f, rfl, _⟩; rfl) (fun f cdv A outer s H E hr => der_without_zeros T cdv A outer s H E hr) (by
    rintro Rs R ⟨f, rfl, rfl⟩ H0 σ H a Q q
    refine w_seq (w_set a e_c fun σ1 H1 a1 => ?_)
    let ι := {i : Nat // i ≤ f.length ∧ wz (f.drop i) = wz f}
    refine w_seq (w_while (ι := ι) a1 (fun i => f.length - i.1) (fun i => [some (LfI f), some (IsI (i.1 : Int))]) (fun _ => []) ⟨0, Nat.zero_le _, rfl⟩ a1 (fun i => decide ((i.1 : Int) < (f.length : Int)) && decide (co f i.1 = 0)) (fun i => t_and (t_test (e_opI0 (e_var rfl) (e_lenF (e_var rfl)))) fun h => t_test (e_eqI (e_ixF (x := co f i.1) (e_var rfl) (e_var rfl) (by omega) (co_get? ?_)) e_c)) ?_ ?_)
    · have := of_decide_eq_true h
      omega
    · rintro ⟨i, h1, h2⟩ hb nx' bk' ct' σ H a k
      obtain ⟨b1, b2⟩ := Bool.and_eq_true_iff.mp hb
      have b1 : (i : Int) < (f.length : Int) := of_decide_eq_true b1
      have b2 : co f i = 0 := of_decide_eq_true b2
      have hi : i < f.length := by omega
      refine w_aug (f := fun i j => i + j) a rfl e_c fun σ' H' a' => k ⟨i + 1, hi, by rw [← h2]; exact (wz_step hi b2).symm⟩ σ' H' (by show f.length - (i + 1) < f.length - i; omega) a'
    · rintro ⟨i, h1, h2⟩ hb σ H a
      have e : f.drop i = wz f := by
        rw [← h2]
        refine (wz_stop fun hi h0 => ?_).symm
        rw [decide_eq_true (show (i : Int) < (f.length : Int) by omega), decide_eq_true h0] at hb
        cases hb
      exact w_ret a (e_frzI (el_listF (e_frzI (el_slF (i := i) (e_var rfl) (e_var rfl) h1)))) fun v H' a' p => q v H' a'.kp a'.me (by rw [e] at p; exact p))
theorem cal_smaller (T : Gb mg) (C : C_smaller P w K mg base) (D : Dfn K mg "smaller" s_smaller) : C8.Cal P w K mg base 2 "smaller" (sp_smaller K) [] :=
  calP D sc_smaller bw_smaller (by rintro Rs R ⟨f, rfl, _⟩; rfl) (fun f cdv A outer s H E hr => der_smaller T C cdv A outer s H E hr) (by
    rintro Rs R ⟨f, rfl, hl, hs, rfl⟩ H0 σ H a Q q
    refine w_seq (w_set a (e_call (a_cons (e_var rfl) a_nil) ⟨_, rfl, rfl⟩) fun σ1 H1 a1 => ?_)
    refine w_ret a1 (R := LfI (sm f)) (e_if (b := decide (1 < shf f)) (t_test (e_opI0 (e_var rfl) e_c)) (fun h => ?_) fun h => ?_) fun v H' a' p => q v H' a'.kp a'.me p
    · have h1 := of_decide_eq_true h
      have e : sm f = f.map fun x => x / shf f := if_pos h1
      rw [e]
      refine e_frzI (el_lcI0 (f := fun i => co f i / shf f) (rs' := fun i => [some (LfI f), some (IsI (shf f)), some (IsI (co f i))]) (ij_listF (K := K) (e_var rfl)) (by omega) (fun i hi c ms => g_name) (fun i hi y D acc => e_opI (e_var rfl) (e_var rfl) (by show 0 < shf f ∧ _; omega)) ?_)
      refine List.ext_getElem (by simp [tab]) fun i h1 h2 => ?_
      have h3 : i < f.length := by simpa using h1
      simp [tab, co_lt h3]
    · have e : sm f = f := if_neg (of_decide_eq_false h)
      rw [e]
      exact e_frzI (el_listF (e_var rfl)))
theorem cal_left_by (T : Gb mg) (C : C_left_by P w K mg base) (D : Dfn K mg "left_by" s_left_by) : C8.Cal P w K mg base 3 "left_by" (sp_left_by K) [] :=
  calP D sc_left_by bw_left_by (by rintro Rs R ⟨f, o, r, rfl, _⟩; rfl) (fun f cdv A outer s H E hr => der_left_by T C cdv A outer s H E hr) (by
    rintro Rs R ⟨f, o, r, rfl, ⟨ho1, ho2, hso, ls, hf, hls⟩, rfl⟩ H0 σ H a Q q
    have hab : -(2 ^ 64) < ab (co o 0) ∧ ab (co o 0) < 2 ^ 64 := by
      have := co_small hso 0
      unfold ab
      split <;> omega
    refine w_seq (w_asgG a (e_tup (Rs := [LfI f, IsI (ab (co o 0))]) (a_cons (e_frzI (el_listF (e_var rfl))) (a_cons (e_abs (e_ixF (x := co o 0) (e_var rfl) e_c (by decide) (co_get? ho1))) a_nil)) (by simp)) g_pair fun σ1 H1 a1 => ?_)
    refine w_seq (w_set a1 (e_ifI (b := decide (0 < co o 0)) (i := 1) (j := -1) (t_test (e_opI0 (e_ixF (x := co o 0) (e_var rfl) e_c (by decide) (co_get? ho1)) e_c)) e_c (e_neg e_c)) fun σ2 H2 a2 => ?_)
    have es : (if decide (0 < co o 0) = true then (1 : Int) else -1) = sgn (co o 0) := by
      unfold sgn
      by_cases h : 0 < co o 0
      · rw [if_pos h, if_pos (decide_eq_true h)]
      · rw [if_neg h, if_neg (fun z => h (of_decide_eq_true z))]
    rw [es] at a2
    let ι := {l : List Int // l ∈ ls}
    refine w_seq (w_while (ι := ι) a2 (fun l => l.1.length) (fun l => [some (LfI f), some (LfI o), some (IsI (sgn (co o 0))), some (LfI l.1), some (IsI (ab (co o 0))), none, none, none, none]) (fun _ => []) ⟨f, hf⟩ (a2.wk ?_) (fun l => decide ((o.length : Int) ≤ (l.1.length : Int))) (fun l => t_test (e_opI0 (e_lenF (e_var rfl)) (e_lenF (e_var rfl)))) ?_ ?_)
    · walk_at "wk"
    · rintro ⟨l, hl⟩ hb nx' bk' ct' σ H a k
      have hb : (o.length : Int) ≤ (l.length : Int) := of_decide_eq_true hb
      obtain ⟨l20, k1, _⟩ := hls l hl
      refine w_seq (w_set a (e_opI (e_var rfl) (e_ixF (x := co l 0) (e_var rfl) e_c (by decide) (co_get? (by show 0 < l.length; omega))) (.inl (sgn_small _))) fun σ1 H1 b1 => ?_)
      have hlg : (lng l o).length = l.length := by unfold lng; rw [List.length_append, List.length_replicate]; omega
      refine w_seq (w_set b1 (R := LfI (lng l o)) (e_frzI ?_) fun σ2 H2 b2 => ?_)
      · have h1 := el_lst (a_star (K := K) (e_var (c := ⟨H0, [], []⟩) (rs := [some (LfI f), some (LfI o), some (IsI (sgn (co o 0))), some (LfI l), some (IsI (ab (co o 0))), some (IsI (sgn (co o 0) * co l 0)), none, none, none]) (ms := []) (i := 1) (R := LfI o) rfl |>.weak fun v H p => lr_li.mpr p)
          (a_star (K := K) ((e_frzI (el_rep (x := 0) (n := (l.length : Int) - (o.length : Int)) (ta := tLst (tCons (tC (.int 0)) tNil)) (el_lst (a_cons e_c a_nil) (by decide)) (e_opI0 (g := fun i j => .int (i - j)) (e_lenF (K := K) (te := tVar 3) (e_var rfl)) (e_lenF (K := K) (te := tVar 1) (e_var rfl))) (by omega) (by omega))).weak fun v H p => lr_li.mpr p) a_nil)) (by simp; omega)
        have e : o.map IsI ++ ((List.replicate ((l.length : Int) - (o.length : Int)).toNat (0 : Int)).map IsI ++ []) = (lng l o).map IsI := by
          unfold lng
          rw [List.append_nil, List.map_append, show ((l.length : Int) - (o.length : Int)).toNat = l.length - o.length by omega]
        rw [e] at h1
        exact h1
      · refine w_set b2 (R := LfI (stp o l)) (e_frzI (el_slF (i := 1) (e_frzI (ns := tab l.length fun i => ab (co o 0) * co l i - (sgn (co o 0) * co l 0) * co (lng l o) i) (el_lcI0 (n := (lng l o).length) (f := fun i => ab (co o 0) * co l i - (sgn (co o 0) * co l 0) * co (lng l o) i) (rs' := fun i => [some (LfI f), some (LfI o), some (IsI (sgn (co o 0))), some (LfI l), some (IsI (ab (co o 0))), some (IsI (sgn (co o 0) * co l 0)), some (LfI (lng l o)), some (IsI (co l i)), some (IsI (co (lng l o) i))]) (ij_zipF (K := K) (xs := l) (ys := lng l o) (a_cons (e_var rfl) (a_cons (e_var rfl) a_nil)) hlg.symm) (by omega) (fun i hi c ms => g_pair) (fun i hi y D acc => e_opI0 (e_opI (e_var rfl) (e_var rfl) (.inl hab)) (e_opI (e_var rfl) (e_var rfl) (.inr ?_))) (by rw [hlg]))) e_c ?_)) fun σ3 H3 b3 => k ⟨stp o l, k1 (by omega)⟩ σ3 H3 (stp_len (by omega)) (b3.wk (by walk_at "wk"))
        · have := co_small (small_lng (l := l) hso) i
          omega
        · rw [tab_length]; omega
    · rintro ⟨l, hl⟩ hb σ H a
      have hb : ¬ (o.length : Int) ≤ (l.length : Int) := of_decide_eq_false hb
      obtain ⟨l20, _, k2⟩ := hls l hl
      obtain ⟨k3, k4⟩ := k2 (by omega)
      have hw : (wz l).length ≤ l.length := (List.dropWhile_sublist _).length_le
      exact w_ret a (e_call (a_cons (e_call (a_cons (e_var rfl) a_nil) ⟨_, rfl, rfl⟩) a_nil) ⟨_, rfl, by show (wz l).length ≤ 20; omega, k3, rfl⟩) fun v H' a' p => q v H' a'.kp a'.me (by rw [k4] at p; exact p))
theorem cal_ends_in (T : Gb mg) (C : C_ends_in P w K mg base) (D : Dfn K mg "ends_in" s_ends_in) : C8.Cal P w K mg base 2 "ends_in" (sp_ends_in K) [] :=
  calP D sc_ends_in bw_ends_in (by rintro Rs R ⟨f, rfl, _⟩; rfl) (fun f cdv A outer s H E hr => der_ends_in T C cdv A outer s H E hr) (by
    rintro Rs R ⟨f, rfl, rfl⟩ H0 σ H a Q q
    have hw : (wz f).length ≤ f.length := (List.dropWhile_sublist _).length_le
    refine w_ret a (e_opI0 (e_lenF (e_var rfl)) (e_lenF (e_call (a_cons (e_var rfl) a_nil) ⟨_, rfl, rfl⟩))) fun v H' a' p => q v H' a'.kp a'.me ?_
    have e : (f.length : Int) - ((wz f).length : Int) = (ends f : Int) := by unfold ends; omega
    rw [e] at p; exact p)
end
end K45
namespace K45
open PySem PySem.Spec PyProof.Rows L2
local macro_rules | `(tactic| walk_at "ev") => `(tactic| repeat' first
  | exact e_var rfl | exact e_c | exact a_nil | refine a_cons ?_ ?_
  | refine e_opI0 ?_ ?_ | refine e_opI ?_ ?_ ?_ | refine e_eqI ?_ ?_ | refine e_neI ?_ ?_ | refine e_neg ?_
  | refine e_lenI ?_ | refine e_lenR ?_ | refine e_abs ?_ | refine e_max ?_ ?_ | refine e_min ?_ ?_ | refine e_intB ?_ | refine e_intI ?_
  | refine e_chain ?_ ?_ ?_ | refine e_ixI ?_ ?_ ?_ ?_ | refine e_ixR ?_ ?_ ?_ ?_
  | refine e_slHead ?_ ?_ ?_ | refine e_slTail ?_ ?_ ?_
  | refine t_test ?_ | refine t_b ?_ | refine e_ifI ?_ ?_ ?_
  | refine ij_zipT ?_ ?_ | refine ij_tupI ?_ | refine ij_rng ?_ ?_
  | exact g_name | exact g_pair)
local macro_rules | `(tactic| walk_at "evn") => `(tactic| repeat' first
  | exact e_var rfl | exact EJ.any e_c | exact EJ.any (e_var rfl) | exact EJ.anyN (e_var rfl) | refine e_diceC (d := ‹Addr›) List.mem_cons_self ?_ (by decide) | refine e_mulL (φ := fun _ => True) (by decide) ?_ | refine e_mulR (φ := fun _ => True) (by decide) ?_ | exact e_c
  | refine e_a0 ?_ ?_ | refine e_intN ?_)
local macro_rules | `(tactic| walk_at "wk") => `(tactic| repeat' first | exact wk_nil | refine wk_none ?_ | refine wk_some (fun _ _ h => h) ?_)
abbrev N_primitive_of : List Str := ["numbers", "part", "number"]
theorem sc_primitive_of : FnScope N_primitive_of ["numbers"] (defScope s_primitive_of) := ⟨rfl, rfl, rfl, by decide +kernel, rfl, by decide +kernel, by decide +kernel⟩
def t_primitive_of (K : PySem.W.Frag) : TS := (tSeq (tAsg (tCall (sp_shared_of K) [] E0 (tCons (tVar 0) tNil)) (gName 1))
  (tSeq (tIfS (tTest (tOp rEq (tVar 1) (tC (.int 0)))) (tRet (tFrz (tCB (rListOf K) (tCons (tVar 0) tNil)))) tNext)
  (tSeq (tAsg (tIf (tTest (tOp rGtB (tCall (sp_first_of K) [] E0 (tCons (tVar 0) tNil)) (tC (.int 0)))) (tVar 1) (tUn rNegI (tVar 1))) (gName 1))
  (tRet (tFrz (tLc (iList K (tVar 0)) (gName 2) tYes (tOp rDivI (tVar 2) (tVar 1)) [2]))))))
structure C_primitive_of (P : Program) (w : World) (K : PySem.W.Frag) (mg : Str → Option Value) (base : Heap) : Prop where
  shared_of_ : C8.Cal P w K mg base 1 "shared_of" (sp_shared_of K) []
  first_of_ : C8.Cal P w K mg base 1 "first_of" (sp_first_of K) []
theorem der_primitive_of {P : Program} {w : World} {K : PySem.W.Frag} {mg : Str → Option Value} {base : Heap} {f : Addr} (T : Gb mg) (C : C_primitive_of P w K mg base) (cdv : Value) (A : Around) (outer : List Env) (s : Shared) (H : Hp) (E : XK) (hr : Room 1 (A.deeper (envOfC "primitive_of" (defScope s_primitive_of) s.heap.objs.size f cdv))) :
    PSs (cxOf CX0 P w K mg base N_primitive_of "primitive_of" (defScope s_primitive_of) f cdv A outer s H E).nox (defBody s_primitive_of) (t_primitive_of K) :=
  (pss_cons (ps_set (i := 1) sc_primitive_of.nd rfl (.inr rfl) (C8.pe_c C.shared_of_ hr (by decide) (by rfl) (pa_cons (pv 0) pa_nil)))
      (pss_cons (ps_if (pt_cmpR op_eq (pv 1) pe_int (nomark _)) (pss_one (ps_ret (pe_frz (pe_callTy call_list_of (by rfl) T.list_ (by decide +kernel) (pa_cons (pv 0) pa_nil))))) pss_nil)
      (pss_cons (ps_set (i := 1) sc_primitive_of.nd rfl (.inr rfl) (pe_ifExp (pt_cmpR op_gt (C8.pe_c C.first_of_ hr (by decide) (by rfl) (pa_cons (pv 0) pa_nil)) pe_int (nomark _)) (pv 1) (pe_un un_neg (pv 1))))
      (pss_one (ps_ret (pe_frz (pe_lc (own := [("number", 2)]) rfl sc_primitive_of.nd (pi_list (pv 0)) (blkOk_by (own := [("number", 2)]) (N := N_primitive_of) (sc := defScope s_primitive_of) (by decide +kernel)) (fun _ _ _ _ _ => (pg_name (i := 2) sc_primitive_of.nd rfl (Or.inl rfl))) (fun _ _ _ _ _ => pts_nil) (fun _ _ _ _ _ => (pe_op op_fdiv (pv 2) (pv 1))))))))))
abbrev N_common_of : List Str := ["one", "other"]
theorem sc_common_of : FnScope N_common_of ["one", "other"] (defScope s_common_of) := ⟨rfl, rfl, rfl, by decide +kernel, rfl, by decide +kernel, by decide +kernel⟩
def t_common_of (K : PySem.W.Frag) : TS := (tSeq (tWhile (tTest (tOp (rNeD K) (tVar 1) (tFrz (tLst tNil)))) (tPar 0 1 (tCons (tVar 1) (tCons (tCall (sp_left_by K) [] E0 (tCons (tVar 0) (tCons (tVar 1) tNil))) tNil))))
  (tRet (tCall (sp_primitive_of K) [] E0 (tCons (tVar 0) tNil))))
structure C_common_of (P : Program) (w : World) (K : PySem.W.Frag) (mg : Str → Option Value) (base : Heap) : Prop where
  left_by_ : C8.Cal P w K mg base 3 "left_by" (sp_left_by K) []
  primitive_of_ : C8.Cal P w K mg base 2 "primitive_of" (sp_primitive_of K) []
theorem der_common_of {P : Program} {w : World} {K : PySem.W.Frag} {mg : Str → Option Value} {base : Heap} {f : Addr} (T : Gb mg) (C : C_common_of P w K mg base) (cdv : Value) (A : Around) (outer : List Env) (s : Shared) (H : Hp) (E : XK) (hr : Room 3 (A.deeper (envOfC "common_of" (defScope s_common_of) s.heap.objs.size f cdv))) :
    PSs (cxOf CX0 P w K mg base N_common_of "common_of" (defScope s_common_of) f cdv A outer s H E).nox (defBody s_common_of) (t_common_of K) :=
  (pss_cons (ps_while PassesOwn.never (pt_cmpR (op_neD hr.units) (pv 1) (pe_frz (pe_lst pa_nil)) (nomark _)) (pss_one (ps_par (i := 0) (j := 1) rfl sc_common_of.nd rfl rfl (by decide) rfl rfl (pa_cons (pv 1) (pa_cons (C8.pe_c C.left_by_ hr (by decide) (by rfl) (pa_cons (pv 0) (pa_cons (pv 1) pa_nil))) pa_nil)) rfl)))
      (pss_one (ps_ret (C8.pe_c C.primitive_of_ hr (by decide) (by rfl) (pa_cons (pv 0) pa_nil)))))
abbrev N_common_line : List Str := ["one", "other", "first", "second"]
theorem sc_common_line : FnScope N_common_line ["one", "other"] (defScope s_common_line) := ⟨rfl, rfl, rfl, by decide +kernel, rfl, by decide +kernel, by decide +kernel⟩
def t_common_line (K : PySem.W.Frag) : TS := (tSeq (tPar 2 3 (tCons (tCall (sp_without_zeros K) [] E0 (tCons (tVar 0) tNil)) (tCons (tCall (sp_without_zeros K) [] E0 (tCons (tVar 1) tNil)) tNil)))
  (tSeq (tIfS (tOr (tTest (tOp (rEqD K) (tVar 2) (tFrz (tLst tNil)))) (tTest (tOp (rEqD K) (tVar 3) (tFrz (tLst tNil))))) (tRet (tCall (sp_primitive_of K) [] E0 (tCons (tIf (tTest (tOp (rEqD K) (tVar 2) (tFrz (tLst tNil)))) (tVar 1) (tVar 0)) tNil))) tNext)
  (tRet (tFrz (tOp (rCatF K) (tOp rRep (tLst (tCons (tC (.int 0)) tNil)) (tCB rMin2 (tCons (tCall (sp_ends_in K) [] E0 (tCons (tVar 0) tNil)) (tCons (tCall (sp_ends_in K) [] E0 (tCons (tVar 1) tNil)) tNil)))) (tCall (sp_common_of K) [] E0 (tCons (tVar 2) (tCons (tVar 3) tNil))))))))
structure C_common_line (P : Program) (w : World) (K : PySem.W.Frag) (mg : Str → Option Value) (base : Heap) : Prop where
  without_zeros_ : C8.Cal P w K mg base 1 "without_zeros" (sp_without_zeros K) []
  primitive_of_ : C8.Cal P w K mg base 2 "primitive_of" (sp_primitive_of K) []
  ends_in_ : C8.Cal P w K mg base 2 "ends_in" (sp_ends_in K) []
  common_of_ : C8.Cal P w K mg base 4 "common_of" (sp_common_of K) []
theorem der_common_line {P : Program} {w : World} {K : PySem.W.Frag} {mg : Str → Option Value} {base : Heap} {f : Addr} (T : Gb mg) (C : C_common_line P w K mg base) (cdv : Value) (A : Around) (outer : List Env) (s : Shared) (H : Hp) (E : XK) (hr : Room 4 (A.deeper (envOfC "common_line" (defScope s_common_line) s.heap.objs.size f cdv))) :
    PSs (cxOf CX0 P w K mg base N_common_line "common_line" (defScope s_common_line) f cdv A outer s H E).nox (defBody s_common_line) (t_common_line K) :=
  (pss_cons (ps_par (i := 2) (j := 3) rfl sc_common_line.nd rfl rfl (by decide) rfl rfl (pa_cons (C8.pe_c C.without_zeros_ hr (by decide) (by rfl) (pa_cons (pv 0) pa_nil)) (pa_cons (C8.pe_c C.without_zeros_ hr (by decide) (by rfl) (pa_cons (pv 1) pa_nil)) pa_nil)) rfl)
      (pss_cons (ps_if (PW.pt (pw_or (pt_cmpR (op_eqD hr.units) (pv 2) (pe_frz (pe_lst pa_nil)) (nomark _)) (pw_or1 (pt_cmpR (op_eqD hr.units) (pv 3) (pe_frz (pe_lst pa_nil)) (nomark _))))) (pss_one (ps_ret (C8.pe_c C.primitive_of_ hr (by decide) (by rfl) (pa_cons (pe_ifExp (pt_cmpR (op_eqD hr.units) (pv 2) (pe_frz (pe_lst pa_nil)) (nomark _)) (pv 1) (pv 0)) pa_nil)))) pss_nil)
      (pss_one (ps_ret (pe_frz (pe_op op_catF (pe_op op_rep (pe_lst (pa_cons pe_int pa_nil)) (pe_callB (call_min2 rfl) (by rfl) T.min_ (by decide +kernel) (pa_cons (C8.pe_c C.ends_in_ hr (by decide) (by rfl) (pa_cons (pv 0) pa_nil)) (pa_cons (C8.pe_c C.ends_in_ hr (by decide) (by rfl) (pa_cons (pv 1) pa_nil)) pa_nil)))) (C8.pe_c C.common_of_ hr (by decide) (by rfl) (pa_cons (pv 2) (pa_cons (pv 3) pa_nil)))))))))
abbrev N_lessened_line : List Str := ["entries", "degree", "by_x", "by_y", "at", "entry"]
theorem sc_lessened_line : FnScope N_lessened_line ["entries"] (defScope s_lessened_line) := ⟨rfl, rfl, rfl, by decide +kernel, rfl, by decide +kernel, by decide +kernel⟩
def t_lessened_linea (K : PySem.W.Frag) : TS := (tSeq (tAsg (tOp rSubI (tCB (rLen K) (tCons (tVar 0) tNil)) (tC (.int 1))) (gName 1))
  (tSeq (tFzS 2 (tAsg (tLc (iEnumT K (tCons (tSl (rSlT K) (tVar 0) tNoPart (tPart (tUn rNegI (tC (.int 1))))) tNil)) (L2.gTup K 2 (gCons (gName 4) (gCons (gName 5) gNil))) tYes (tOp rMulI (tVar 5) (tOp rSubI (tVar 1) (tVar 4))) [4, 5]) (gName 2)))
  (tSeq (tAsg (tFrz (tSl (rSlL K) (tFrz (tLc (iEnumT K (tCons (tVar 0) tNil)) (L2.gTup K 2 (gCons (gName 4) (gCons (gName 5) gNil))) tYes (tOp rMulI (tVar 5) (tVar 4)) [4, 5])) (tPart (tC (.int 1))) tNoPart)) (gName 3))
  (tRet (tCall (sp_common_line K) [] E0 (tCons (tVar 2) (tCons (tVar 3) tNil)))))))
structure C_lessened_line (P : Program) (w : World) (K : PySem.W.Frag) (mg : Str → Option Value) (base : Heap) : Prop where
  common_line_ : C8.Cal P w K mg base 5 "common_line" (sp_common_line K) []
theorem der_lessened_linea {P : Program} {w : World} {K : PySem.W.Frag} {mg : Str → Option Value} {base : Heap} {f : Addr} (T : Gb mg) (C : C_lessened_line P w K mg base) (cdv : Value) (A : Around) (outer : List Env) (s : Shared) (H : Hp) (E : XK) (hr : Room 5 (A.deeper (envOfC "lessened_line" (defScope s_lessened_line) s.heap.objs.size f cdv))) :
    PSs (cxOf CX0 P w K mg base N_lessened_line "lessened_line" (defScope s_lessened_line) f cdv A outer s H E).nox (defBody s_lessened_line) (t_lessened_linea K) :=
  (pss_cons (ps_set (i := 1) sc_lessened_line.nd rfl (.inr rfl) (pe_op op_sub (pe_callB call_len_seq (by rfl) T.len_ (by decide +kernel) (pa_cons (pv 0) pa_nil)) pe_int))
      (pss_cons (ps_frzS (i := 2) (ps_setLc (i := 2) (own := [("at", 4), ("entry", 5)]) rfl sc_lessened_line.nd rfl rfl (sw_true rfl rfl rfl (by decide +kernel)) (pi_enumT (by rfl) T.enumerate_ (pa_cons (pe_slice sl_tup (pv 0) po_none (po_some (pe_un un_neg pe_int))) pa_nil)) (blkOk_by (own := [("at", 4), ("entry", 5)]) (N := N_lessened_line) (sc := defScope s_lessened_line) (by decide +kernel)) (fun _ _ _ _ _ => (pg_tup rfl (pgs_cons (pg_name (i := 4) sc_lessened_line.nd rfl (Or.inl rfl)) (pgs_cons (pg_name (i := 5) sc_lessened_line.nd rfl (Or.inl rfl)) pgs_nil)))) (fun _ _ _ _ _ => pts_nil) (fun _ _ _ _ _ => (pe_op op_mul (pv 5) (pe_op op_sub (pv 1) (pv 4))))))
      (pss_cons (ps_set (i := 3) sc_lessened_line.nd rfl (.inl rfl) (pe_frz (pe_slice sl_list (pe_frz (pe_lc (own := [("at", 4), ("entry", 5)]) rfl sc_lessened_line.nd (pi_enumT (by rfl) T.enumerate_ (pa_cons (pv 0) pa_nil)) (blkOk_by (own := [("at", 4), ("entry", 5)]) (N := N_lessened_line) (sc := defScope s_lessened_line) (by decide +kernel)) (fun _ _ _ _ _ => (pg_tup rfl (pgs_cons (pg_name (i := 4) sc_lessened_line.nd rfl (Or.inl rfl)) (pgs_cons (pg_name (i := 5) sc_lessened_line.nd rfl (Or.inl rfl)) pgs_nil)))) (fun _ _ _ _ _ => pts_nil) (fun _ _ _ _ _ => (pe_op op_mul (pv 5) (pv 4))))) (po_some pe_int) po_none)))
      (pss_one (ps_ret (C8.pe_c C.common_line_ hr (by decide) (by rfl) (pa_cons (pv 2) (pa_cons (pv 3) pa_nil))))))))
def t_lessened_lineb (K : PySem.W.Frag) : TS := (tSeq (tAsg (tOp rSubI (tCB (rLen K) (tCons (tVar 0) tNil)) (tC (.int 1))) (gName 1))
  (tSeq (tFzS 2 (tAsg (tLc (iEnum K (tCons (tFrz (tSl (rSlL K) (tVar 0) tNoPart (tPart (tUn rNegI (tC (.int 1)))))) tNil)) (L2.gTup K 2 (gCons (gName 4) (gCons (gName 5) gNil))) tYes (tOp rMulI (tVar 5) (tOp rSubI (tVar 1) (tVar 4))) [4, 5]) (gName 2)))
  (tSeq (tAsg (tFrz (tSl (rSlL K) (tFrz (tLc (iEnum K (tCons (tVar 0) tNil)) (L2.gTup K 2 (gCons (gName 4) (gCons (gName 5) gNil))) tYes (tOp rMulI (tVar 5) (tVar 4)) [4, 5])) (tPart (tC (.int 1))) tNoPart)) (gName 3))
  (tRet (tCall (sp_common_line K) [] E0 (tCons (tVar 2) (tCons (tVar 3) tNil)))))))
theorem der_lessened_lineb {P : Program} {w : World} {K : PySem.W.Frag} {mg : Str → Option Value} {base : Heap} {f : Addr} (T : Gb mg) (C : C_lessened_line P w K mg base) (cdv : Value) (A : Around) (outer : List Env) (s : Shared) (H : Hp) (E : XK) (hr : Room 5 (A.deeper (envOfC "lessened_line" (defScope s_lessened_line) s.heap.objs.size f cdv))) :
    PSs (cxOf CX0 P w K mg base N_lessened_line "lessened_line" (defScope s_lessened_line) f cdv A outer s H E).nox (defBody s_lessened_line) (t_lessened_lineb K) :=
  (pss_cons (ps_set (i := 1) sc_lessened_line.nd rfl (.inr rfl) (pe_op op_sub (pe_callB call_len_seq (by rfl) T.len_ (by decide +kernel) (pa_cons (pv 0) pa_nil)) pe_int))
      (pss_cons (ps_frzS (i := 2) (ps_setLc (i := 2) (own := [("at", 4), ("entry", 5)]) rfl sc_lessened_line.nd rfl rfl (sw_true rfl rfl rfl (by decide +kernel)) (pi_enum (by rfl) T.enumerate_ (pa_cons (pe_frz (pe_slice sl_list (pv 0) po_none (po_some (pe_un un_neg pe_int)))) pa_nil)) (blkOk_by (own := [("at", 4), ("entry", 5)]) (N := N_lessened_line) (sc := defScope s_lessened_line) (by decide +kernel)) (fun _ _ _ _ _ => (pg_tup rfl (pgs_cons (pg_name (i := 4) sc_lessened_line.nd rfl (Or.inl rfl)) (pgs_cons (pg_name (i := 5) sc_lessened_line.nd rfl (Or.inl rfl)) pgs_nil)))) (fun _ _ _ _ _ => pts_nil) (fun _ _ _ _ _ => (pe_op op_mul (pv 5) (pe_op op_sub (pv 1) (pv 4))))))
      (pss_cons (ps_set (i := 3) sc_lessened_line.nd rfl (.inl rfl) (pe_frz (pe_slice sl_list (pe_frz (pe_lc (own := [("at", 4), ("entry", 5)]) rfl sc_lessened_line.nd (pi_enum (by rfl) T.enumerate_ (pa_cons (pv 0) pa_nil)) (blkOk_by (own := [("at", 4), ("entry", 5)]) (N := N_lessened_line) (sc := defScope s_lessened_line) (by decide +kernel)) (fun _ _ _ _ _ => (pg_tup rfl (pgs_cons (pg_name (i := 4) sc_lessened_line.nd rfl (Or.inl rfl)) (pgs_cons (pg_name (i := 5) sc_lessened_line.nd rfl (Or.inl rfl)) pgs_nil)))) (fun _ _ _ _ _ => pts_nil) (fun _ _ _ _ _ => (pe_op op_mul (pv 5) (pv 4))))) (po_some pe_int) po_none)))
      (pss_one (ps_ret (C8.pe_c C.common_line_ hr (by decide) (by rfl) (pa_cons (pv 2) (pa_cons (pv 3) pa_nil))))))))
abbrev N_most_times_in : List Str := ["entries", "found", "here"]
theorem sc_most_times_in : FnScope N_most_times_in ["entries"] (defScope s_most_times_in) := ⟨rfl, rfl, rfl, by decide +kernel, rfl, by decide +kernel, by decide +kernel⟩
def t_most_times_in (K : PySem.W.Frag) : TS := (tSeq (tPar 1 2 (tCons (tC (.int 0)) (tCons (tVar 0) tNil)))
  (tSeq (tWhile (tTest (tOp rGtB (tCB (rLen K) (tCons (tVar 2) tNil)) (tC (.int 1)))) (tPar 1 2 (tCons (tOp rAddI (tVar 1) (tC (.int 1))) (tCons (tCall (sp_lessened_line K) [] E0 (tCons (tVar 2) tNil)) tNil))))
  (tRet (tVar 1))))
structure C_most_times_in (P : Program) (w : World) (K : PySem.W.Frag) (mg : Str → Option Value) (base : Heap) : Prop where
  lessened_line_ : C8.Cal P w K mg base 6 "lessened_line" (sp_lessened_line K) []
theorem der_most_times_in {P : Program} {w : World} {K : PySem.W.Frag} {mg : Str → Option Value} {base : Heap} {f : Addr} (T : Gb mg) (C : C_most_times_in P w K mg base) (cdv : Value) (A : Around) (outer : List Env) (s : Shared) (H : Hp) (E : XK) (hr : Room 6 (A.deeper (envOfC "most_times_in" (defScope s_most_times_in) s.heap.objs.size f cdv))) :
    PSs (cxOf CX0 P w K mg base N_most_times_in "most_times_in" (defScope s_most_times_in) f cdv A outer s H E).nox (defBody s_most_times_in) (t_most_times_in K) :=
  (pss_cons (ps_par (i := 1) (j := 2) rfl sc_most_times_in.nd rfl rfl (by decide) rfl rfl (pa_cons pe_int (pa_cons (pv 0) pa_nil)) rfl)
      (pss_cons (ps_while PassesOwn.never (pt_cmpR op_gt (pe_callB call_len_seq (by rfl) T.len_ (by decide +kernel) (pa_cons (pv 2) pa_nil)) pe_int (nomark _)) (pss_one (ps_par (i := 1) (j := 2) rfl sc_most_times_in.nd rfl rfl (by decide) rfl rfl (pa_cons (pe_op op_add (pv 1) pe_int) (pa_cons (C8.pe_c C.lessened_line_ hr (by decide) (by rfl) (pa_cons (pv 2) pa_nil)) pa_nil)) rfl)))
      (pss_one (ps_ret (pv 1)))))
abbrev N_fall_kind : List Str := ["form", "twice"]
theorem sc_fall_kind : FnScope N_fall_kind ["form"] (defScope s_fall_kind) := ⟨rfl, rfl, rfl, by decide +kernel, rfl, by decide +kernel, by decide +kernel⟩
def t_fall_kind (K : PySem.W.Frag) : TS := (tSeq (tDrop (tCall (sp_require_form K) [] E0 (tCons (tVar 0) tNil)))
  (tSeq (tIfS (tTest (tOp rEq (SlX.tPropSl 511 (sp_Form_degree K) E0 (tVar 0)) (tC (.int 0)))) tNever tNext)
  (tSeq (tIfS (tB (SlX.tPropSl 511 (sp_Form_is_zero K) E0 (tVar 0))) (tRet (tC (.str "falls"))) tNext)
  (tSeq (tAsg (tOp rMulI (tC (.int 2)) (tCall (sp_most_times_in K) [] E0 (tCons (SlX.tPropSl 511 (sp_Form_entries K) E0 (tVar 0)) tNil))) (gName 1))
  (tSeq (tIfS (tTest (tOp rEq (tVar 1) (SlX.tPropSl 511 (sp_Form_degree K) E0 (tVar 0)))) (tRet (tC (.str "edge"))) tNext)
  (tRet (tIf (tTest (tOp rGtB (tVar 1) (SlX.tPropSl 511 (sp_Form_degree K) E0 (tVar 0)))) (tC (.str "falls")) (tC (.str "stands")))))))))
structure C_fall_kind (P : Program) (w : World) (K : PySem.W.Frag) (mg : Str → Option Value) (base : Heap) : Prop where
  require_form_ : C8.Cal P w K mg base 1 "require_form" (sp_require_form K) []
  most_times_in_ : C8.Cal P w K mg base 7 "most_times_in" (sp_most_times_in K) []
  degree_ : Prp P w K mg base 1 "degree" (sp_Form_degree K)
  is_zero_ : Prp P w K mg base 2 "is_zero" (sp_Form_is_zero K)
  entries_ : Prp P w K mg base 1 "entries" (sp_Form_entries K)
theorem der_fall_kind {P : Program} {w : World} {K : PySem.W.Frag} {mg : Str → Option Value} {base : Heap} {f : Addr} (T : Gb mg) (C : C_fall_kind P w K mg base) (cdv : Value) (A : Around) (outer : List Env) (s : Shared) (H : Hp) (E : XK) (hr : Room 7 (A.deeper (envOfC "fall_kind" (defScope s_fall_kind) s.heap.objs.size f cdv))) :
    PSs (cxOf CX0 P w K mg base N_fall_kind "fall_kind" (defScope s_fall_kind) f cdv A outer s H E).nox (defBody s_fall_kind) (t_fall_kind K) :=
  (pss_cons (ps_expr (C8.pe_c C.require_form_ hr (by decide) (by rfl) (pa_cons (pv 0) pa_nil)))
      (pss_cons (ps_if (pt_cmpR op_eq (pe_prp C.degree_ hr (by decide) (pv 0)) pe_int (nomark _)) (pss_one ps_never) pss_nil)
      (pss_cons (ps_if (pt_val (pe_prp C.is_zero_ hr (by decide) (pv 0))) (pss_one (ps_ret pe_str)) pss_nil)
      (pss_cons (ps_set (i := 1) sc_fall_kind.nd rfl (.inl rfl) (pe_op op_mul pe_int (C8.pe_c C.most_times_in_ hr (by decide) (by rfl) (pa_cons (pe_prp C.entries_ hr (by decide) (pv 0)) pa_nil))))
      (pss_cons (ps_if (pt_cmpR op_eq (pv 1) (pe_prp C.degree_ hr (by decide) (pv 0)) (nomark _)) (pss_one (ps_ret pe_str)) pss_nil)
      (pss_one (ps_ret (pe_ifExp (pt_cmpR op_gt (pv 1) (pe_prp C.degree_ hr (by decide) (pv 0)) (nomark _)) pe_str pe_str))))))))
theorem bw_primitive_of : BindsW "primitive_of" s_primitive_of ["numbers"] := fun kV doc pm an cdv ct us h => by
  match us, h with
  | [_], _ => rfl
theorem bw_common_of : BindsW "common_of" s_common_of ["one", "other"] := fun kV doc pm an cdv ct us h => by
  match us, h with
  | [_, _], _ => rfl
theorem bw_common_line : BindsW "common_line" s_common_line ["one", "other"] := fun kV doc pm an cdv ct us h => by
  match us, h with
  | [_, _], _ => rfl
theorem bw_lessened_line : BindsW "lessened_line" s_lessened_line ["entries"] := fun kV doc pm an cdv ct us h => by
  match us, h with
  | [_], _ => rfl
theorem bw_most_times_in : BindsW "most_times_in" s_most_times_in ["entries"] := fun kV doc pm an cdv ct us h => by
  match us, h with
  | [_], _ => rfl
theorem bw_fall_kind : BindsW "fall_kind" s_fall_kind ["form"] := fun kV doc pm an cdv ct us h => by
  match us, h with
  | [_], _ => rfl
theorem lb1 : LB [2, 0] [2, 0, 0] [1, 0] := ⟨by decide, by decide, by decide, [[2, 0]], by decide, by unfold LBok; decide +kernel⟩
theorem lb2 : LB [2, 0, 0] [1, 0] [] := ⟨by decide, by decide, by decide, [[2, 0, 0], [0, 0], [0]], by decide, by unfold LBok; decide +kernel⟩
theorem lb3 : LB [1] [1, 0] [1] := ⟨by decide, by decide, by decide, [[1]], by decide, by unfold LBok; decide +kernel⟩
theorem lb4 : LB [1, 0] [1] [] := ⟨by decide, by decide, by decide, [[1, 0], [0], []], by decide, by unfold LBok; decide +kernel⟩
theorem co1 : CO [2, 0] [2, 0, 0] [1, 0] := ⟨[([2, 0], [2, 0, 0]), ([2, 0, 0], [1, 0]), ([1, 0], [])], by decide, fun p hp => by
  rcases List.mem_cons.mp hp with e | hp
  · subst e; exact ⟨fun _ => ⟨_, lb1, by decide, by decide⟩, fun h => by cases h⟩
  rcases List.mem_cons.mp hp with e | hp
  · subst e; exact ⟨fun _ => ⟨_, lb2, by decide, by decide⟩, fun h => by cases h⟩
  rcases List.mem_cons.mp hp with e | hp
  · subst e; exact ⟨fun h => (h rfl).elim, fun _ => ⟨rfl, [0], rfl, by decide⟩⟩
  cases hp⟩
theorem co2 : CO [1] [1, 0] [1] := ⟨[([1], [1, 0]), ([1, 0], [1]), ([1], [])], by decide, fun p hp => by
  rcases List.mem_cons.mp hp with e | hp
  · subst e; exact ⟨fun _ => ⟨_, lb3, by decide, by decide⟩, fun h => by cases h⟩
  rcases List.mem_cons.mp hp with e | hp
  · subst e; exact ⟨fun _ => ⟨_, lb4, by decide, by decide⟩, fun h => by cases h⟩
  rcases List.mem_cons.mp hp with e | hp
  · subst e; exact ⟨fun h => (h rfl).elim, fun _ => ⟨rfl, [], rfl, by decide⟩⟩
  cases hp⟩
theorem ll1 : LL [0, 0, 1, 0, 0] [0, 1, 0] := by
  refine ⟨by decide, by decide, ?_⟩
  have e1 : byx [0, 0, 1, 0, 0] = [0, 0, 2, 0] := by decide +kernel
  have e2 : byy [0, 0, 1, 0, 0] = [0, 2, 0, 0] := by decide +kernel
  have e3 : wz [0, 0, 2, 0] = [2, 0] := by decide +kernel
  have e4 : wz [0, 2, 0, 0] = [2, 0, 0] := by decide +kernel
  rw [e1, e2]
  refine ⟨by decide, by decide, by rw [e3]; decide, by rw [e4]; decide, [1, 0], by decide, by rw [e3, e4]; exact co1, by decide +kernel⟩
theorem ll2 : LL [0, 1, 0] [1] := by
  refine ⟨by decide, by decide, ?_⟩
  have e1 : byx [0, 1, 0] = [0, 1] := by decide +kernel
  have e2 : byy [0, 1, 0] = [1, 0] := by decide +kernel
  have e3 : wz [0, 1] = [1] := by decide +kernel
  have e4 : wz [1, 0] = [1, 0] := by decide +kernel
  rw [e1, e2]
  refine ⟨by decide, by decide, by rw [e3]; decide, by rw [e4]; decide, [1], by decide, by rw [e3, e4]; exact co2, by decide +kernel⟩
def hrR (K : PySem.W.Frag) : Nat → Rl
  | 0 => TuI K [0, 0, 1, 0, 0]
  | 1 => LfI [0, 1, 0]
  | _ => LfI [1]
section
variable {P : Program} {w : World} {K : PySem.W.Frag} {mg : Str → Option Value} {base : Heap}
theorem cal_primitive_of (T : Gb mg) (C : C_primitive_of P w K mg base) (D : Dfn K mg "primitive_of" s_primitive_of) : C8.Cal P w K mg base 2 "primitive_of" (sp_primitive_of K) [] :=
  calT D sc_primitive_of bw_primitive_of (by rintro Rs R ⟨f, rfl, _⟩; rfl) (fun f cdv A outer s H E hr => der_primitive_of T C cdv A outer s H E hr) (by
    rintro Rs R ⟨t, rfl, hl, rfl⟩ H0 σ H a Q q
    have h1 : EJ ⟨H0, [], [gTab 203]⟩ (rs0 N_primitive_of.length [LfI (1 :: t)]) [] (tCall (sp_shared_of K) [] E0 (tCons (tVar 0) tNil)) (IsI 1) := e_call (a_cons (e_var rfl) a_nil) ⟨_, rfl, by rw [shf_one]⟩
    refine w_seq (w_set a h1 fun σ1 H1 a1 => ?_)
    refine w_seq (w_if (b := false) a1 (t_test ((e_eqI (i := 1) (j := 0) (e_var rfl) e_c).isB (by decide))) (fun z => by cases z) fun _ H2 a2 => w_next ?_)
    refine w_seq (w_set a2 (R := IsI 1) (e_if (b := true) (t_test (e_opI0 (g := fun i j => .bl (decide (j < i))) (i := 1) (e_callT List.mem_cons_self (a_cons (e_var rfl) a_nil) ⟨1, t, rfl, by decide, rfl⟩) e_c)) (fun _ => e_var rfl) fun z => by cases z) fun σ3 H3 a3 => ?_)
    refine w_ret a3 (R := LfI (1 :: t)) (e_frzI (el_lcI0 (f := fun i => co (1 :: t) i / 1) (rs' := fun i => [some (LfI (1 :: t)), some (IsI 1), some (IsI (co (1 :: t) i))]) (ij_listF (K := K) (e_var rfl)) (by omega) (fun i hi c ms => g_name) (fun i hi y D acc => e_opI (e_var rfl) (e_var rfl) (by show (0 : Int) < 1 ∧ (1 : Int) < 1073741824; decide)) ?_)) fun v H' a' p => q v H' a'.kp a'.me p
    refine List.ext_getElem (by simp [tab]) fun i h1 h2 => ?_
    have h3 : i < (1 :: t).length := h1
    simp only [tab, List.getElem_map, List.getElem_range, Int.ediv_one]
    exact (co_lt h3).symm)
theorem cal_common_of (T : Gb mg) (C : C_common_of P w K mg base) (D : Dfn K mg "common_of" s_common_of) : C8.Cal P w K mg base 4 "common_of" (sp_common_of K) [] :=
  calT D sc_common_of bw_common_of (by rintro Rs R ⟨f, o, r, rfl, _⟩; rfl) (fun f cdv A outer s H E hr => der_common_of T C cdv A outer s H E hr) (by
    rintro Rs R ⟨f, o, r, rfl, ⟨ls, hf, hls⟩, rfl⟩ H0 σ H a Q q
    let ι := {p : List Int × List Int // p ∈ ls}
    refine w_seq (w_while (ι := ι) a (fun p => p.1.2.length) (fun p => [some (LfI p.1.1), some (LfI p.1.2)]) (fun _ => []) ⟨(f, o), hf⟩ a (fun p => !decide (p.1.2 = [])) (fun p => t_test (e_neF (e_var rfl) (e_frzI (ns := []) (el_lst a_nil (by simp))))) ?_ ?_)
    · rintro ⟨p, hp⟩ hb nx' bk' ct' σ H a k
      have hb : p.2 ≠ [] := by simpa using hb
      obtain ⟨z, h1, h2, h3⟩ := (hls p hp).1 hb
      exact w_par a (a_cons (e_var rfl) (a_cons (e_call (a_cons (e_var rfl) (a_cons (e_var rfl) a_nil)) ⟨_, _, _, rfl, h1, rfl⟩) a_nil)) fun σ2 H2 a2 => k ⟨(p.2, z), h3⟩ σ2 H2 h2 a2
    · rintro ⟨p, hp⟩ hb σ H a
      have hb : p.2 = [] := by simpa using hb
      obtain ⟨e, t, et, hl⟩ := (hls p hp).2 hb
      have h1 : EJ ⟨H0, [], [gTab 203]⟩ [some (LfI p.1), some (LfI p.2)] [] (tCall (sp_primitive_of K) [] E0 (tCons (tVar 0) tNil)) (LfI r) := e_callT List.mem_cons_self (a_cons (e_var rfl) a_nil) ⟨t, by rw [e, et], by rw [← et]; exact hl, by rw [et]⟩
      exact w_ret a h1 fun v H' a' p => q v H' a'.kp a'.me p)
theorem cal_common_line (T : Gb mg) (C : C_common_line P w K mg base) (D : Dfn K mg "common_line" s_common_line) : C8.Cal P w K mg base 5 "common_line" (sp_common_line K) [] :=
  calT D sc_common_line bw_common_line (by rintro Rs R ⟨f, o, r, rfl, _⟩; rfl) (fun f cdv A outer s H E hr => der_common_line T C cdv A outer s H E hr) (by
    rintro Rs R ⟨f, o, r, rfl, ⟨hf, ho, nf, no, z, hz, hc, rfl⟩, rfl⟩ H0 σ H a Q q
    refine w_seq (w_par a (a_cons (e_call (a_cons (e_var rfl) a_nil) ⟨_, rfl, rfl⟩) (a_cons (e_call (a_cons (e_var rfl) a_nil) ⟨_, rfl, rfl⟩) a_nil)) fun σ1 H1 a1 => ?_)
    refine w_seq (w_if (b := false) a1 (t_or (a := false) (b := false) (t_test ((e_eqF (e_var (R := LfI (wz f)) rfl) (e_frzI (ns := []) (el_lst a_nil (by simp)))).isB (decide_eq_false nf))) fun _ => t_test ((e_eqF (e_var (R := LfI (wz o)) rfl) (e_frzI (ns := []) (el_lst a_nil (by simp)))).isB (decide_eq_false no))) (fun z => by cases z) fun _ H2 a2 => w_next ?_)
    have hm : (if (ends o : Int) < (ends f : Int) then (ends o : Int) else (ends f : Int)).toNat = min (ends f) (ends o) := by split <;> omega
    have hn : ends f ≤ 20 := by unfold ends; omega
    have hE := e_frzI (el_catF (K := K) (el_rep (x := 0) (n := if (ends o : Int) < (ends f : Int) then (ends o : Int) else (ends f : Int)) (el_lst (c := ⟨H0, [], [gTab 203]⟩) (rs := [some (LfI f), some (LfI o), some (LfI (wz f)), some (LfI (wz o))]) (ms := []) (tr := tCons (tC (.int 0)) tNil) (a_cons e_c a_nil) (by simp)) (e_min (e_call (S := fun Rs R => ∃ f : List Int, Rs = [LfI f] ∧ R = IsI (ends f : Int)) (E := E0) (tr := tCons (tVar 0) tNil) (a_cons (e_var (R := LfI f) rfl) a_nil) ⟨_, rfl, rfl⟩) (e_call (S := fun Rs R => ∃ f : List Int, Rs = [LfI f] ∧ R = IsI (ends f : Int)) (E := E0) (tr := tCons (tVar 1) tNil) (a_cons (e_var (R := LfI o) rfl) a_nil) ⟨_, rfl, rfl⟩)) (by split <;> omega) (by split <;> omega))
      (e_callT (A := 203) (S := fun Rs R => ∃ f o r : List Int, Rs = [LfI f, LfI o] ∧ CO f o r ∧ R = LfI r) (E := E0) (tr := tCons (tVar 2) (tCons (tVar 3) tNil)) List.mem_cons_self (a_cons (e_var (R := LfI (wz f)) rfl) (a_cons (e_var (R := LfI (wz o)) rfl) a_nil)) ⟨_, _, z, rfl, hc, rfl⟩) (by rw [List.length_replicate, hm]; omega))
    rw [hm] at hE
    exact w_ret a2 hE fun v H' a' p => q v H' a'.kp a'.me p)
theorem tab_byx (f : List Int) (h1 : 1 ≤ f.length) : byx f = tab (f.take (f.length - 1)).length fun i => co (f.take (f.length - 1)) i * ((f.length : Int) - 1 - (i : Int)) := by
  have e : (f.take (f.length - 1)).length = f.length - 1 := by simp
  rw [e]
  unfold byx
  refine List.map_congr_left fun i hi => ?_
  have hi := List.mem_range.mp hi
  have : co (f.take (f.length - 1)) i = co f i := by
    rw [co_lt (by rw [e]; exact hi), co_lt (by omega)]; simp
  rw [this]
theorem cal_lessened_line (T : Gb mg) (C : C_lessened_line P w K mg base) (D : Dfn K mg "lessened_line" s_lessened_line) : C8.Cal P w K mg base 6 "lessened_line" (sp_lessened_line K) [] :=
  calT D sc_lessened_line bw_lessened_line (by rintro Rs R ⟨f, r, rfl | rfl, _⟩ <;> rfl) (fun f cdv A outer s H E hr => pss_or (der_lessened_linea T C cdv A outer s H E hr) (der_lessened_lineb T C cdv A outer s H E hr)) (by
    rintro Rs R ⟨f, r, rfl | rfl, ⟨h1, h2, hc⟩, rfl⟩ H0 σ H a Q q
    · refine .inl (w_seq (w_set a (R := IsI ((f.length : Int) - 1)) (e_opI0 (g := fun i j => .int (i - j)) (e_lenI (e_var rfl)) e_c) fun σ1 H1 a1 => ?_))
      refine w_seq (w_setFI (ns := byx f) a1 (show 2 < 6 by decide) ?_ fun σ2 H2 a2 => ?_)
      · refine el_lcI0 (f := fun i => co (f.take (f.length - 1)) i * ((f.length : Int) - 1 - (i : Int))) (rs' := fun i => [some (TuI K f), some (IsI ((f.length : Int) - 1)), none, none, some (IsI (i : Int)), some (IsI (co (f.take (f.length - 1)) i))]) (ij_enumI (K := K) (ns := f.take (f.length - 1)) (e_slHead (e_var rfl) (e_neg e_c) h1)) (by simp; omega) (fun i hi c ms => g_pair) (fun i hi y D acc => e_opI (e_var rfl) (e_opI0 (g := fun i j => .int (i - j)) (e_var rfl) (e_var rfl)) (.inr ?_)) (tab_byx f h1)
        have : (f.take (f.length - 1)).length = f.length - 1 := by simp
        omega
      refine w_seq (w_set a2 (R := LfI (byy f)) (e_frzI (el_slF (i := 1) (e_frzI (el_lcI0 (ns := tab f.length fun i => co f i * (i : Int)) (f := fun i => co f i * (i : Int)) (rs' := fun i => [some (TuI K f), some (IsI ((f.length : Int) - 1)), some (LfI (byx f)), none, some (IsI (i : Int)), some (IsI (co f i))]) (ij_enumI (K := K) (ns := f) (e_var rfl)) (by omega) (fun i hi c ms => g_pair) (fun i hi y D acc => e_opI (e_var rfl) (e_var rfl) (.inr (by omega))) rfl)) e_c (by rw [tab_length]; exact h1))) fun σ3 H3 a3 => ?_)
      exact w_ret a3 (e_callT List.mem_cons_self (a_cons (e_var rfl) (a_cons (e_var rfl) a_nil)) ⟨_, _, _, rfl, hc, rfl⟩) fun v H' a' p => q v H' a'.kp a'.me p
    · refine .inr (w_seq (w_set a (R := IsI ((f.length : Int) - 1)) (e_opI0 (g := fun i j => .int (i - j)) (e_lenF (e_var rfl)) e_c) fun σ1 H1 a1 => ?_))
      refine w_seq (w_setFI (ns := byx f) a1 (show 2 < 6 by decide) ?_ fun σ2 H2 a2 => ?_)
      · refine el_lcI0 (f := fun i => co (f.take (f.length - 1)) i * ((f.length : Int) - 1 - (i : Int))) (rs' := fun i => [some (LfI f), some (IsI ((f.length : Int) - 1)), none, none, some (IsI (i : Int)), some (IsI (co (f.take (f.length - 1)) i))]) (ij_enumF (K := K) (ns := f.take (f.length - 1)) (e_frzI (el_slFHead (e_var rfl) (e_neg e_c)))) (by simp; omega) (fun i hi c ms => g_pair) (fun i hi y D acc => e_opI (e_var rfl) (e_opI0 (g := fun i j => .int (i - j)) (e_var rfl) (e_var rfl)) (.inr ?_)) (tab_byx f h1)
        have : (f.take (f.length - 1)).length = f.length - 1 := by simp
        omega
      refine w_seq (w_set a2 (R := LfI (byy f)) (e_frzI (el_slF (i := 1) (e_frzI (el_lcI0 (ns := tab f.length fun i => co f i * (i : Int)) (f := fun i => co f i * (i : Int)) (rs' := fun i => [some (LfI f), some (IsI ((f.length : Int) - 1)), some (LfI (byx f)), none, some (IsI (i : Int)), some (IsI (co f i))]) (ij_enumF (K := K) (ns := f) (e_var rfl)) (by omega) (fun i hi c ms => g_pair) (fun i hi y D acc => e_opI (e_var rfl) (e_var rfl) (.inr (by omega))) rfl)) e_c (by rw [tab_length]; exact h1))) fun σ3 H3 a3 => ?_)
      exact w_ret a3 (e_callT List.mem_cons_self (a_cons (e_var rfl) (a_cons (e_var rfl) a_nil)) ⟨_, _, _, rfl, hc, rfl⟩) fun v H' a' p => q v H' a'.kp a'.me p)
theorem cal_most_times_in (T : Gb mg) (C : C_most_times_in P w K mg base) (D : Dfn K mg "most_times_in" s_most_times_in) : C8.Cal P w K mg base 7 "most_times_in" (sp_most_times_in K) [] :=
  calT D sc_most_times_in bw_most_times_in (by rintro Rs R ⟨rfl, _⟩; rfl) (fun f cdv A outer s H E hr => der_most_times_in T C cdv A outer s H E hr) (by
    rintro Rs R ⟨rfl, rfl⟩ H0 σ H a Q q
    refine w_seq (w_par a (a_cons e_c (a_cons (e_var rfl) a_nil)) fun σ1 H1 a1 => ?_)
    let ι := {i : Nat // i < 3}
    refine w_seq (w_while (ι := ι) a1 (fun i => 2 - i.1) (fun i => [some (TuI K [0, 0, 1, 0, 0]), some (IsI (i.1 : Int)), some (hrR K i.1)]) (fun _ => []) ⟨0, Nat.zero_lt_succ _⟩ (a1.wk (wk_some (fun _ _ h => h) (wk_some (fun _ _ h => h) (wk_some (fun _ _ h => h) wk_nil)))) (fun i => decide (i.1 < 2)) (fun i => ?_) ?_ ?_)
    · match i with
      | ⟨0, _⟩ => exact t_test (e_opI0 (g := fun i j => .bl (decide (j < i))) (i := 5) (e_lenI (e_var (R := TuI K [0, 0, 1, 0, 0]) rfl)) e_c)
      | ⟨1, _⟩ => exact t_test (e_opI0 (g := fun i j => .bl (decide (j < i))) (i := 3) (e_lenF (e_var (R := LfI [0, 1, 0]) rfl)) e_c)
      | ⟨2, _⟩ => exact t_test (e_opI0 (g := fun i j => .bl (decide (j < i))) (i := 1) (e_lenF (e_var (R := LfI [1]) rfl)) e_c)
    · rintro ⟨i, hi⟩ hb nx' bk' ct' σ H a k
      match i, hi, hb, a, k with
      | 0, hi, hb, a, k => exact w_par a (a_cons (e_opI0 (g := fun i j => .int (i + j)) (e_var rfl) e_c) (a_cons (e_callT (R := LfI [0, 1, 0]) List.mem_cons_self (a_cons (e_var rfl) a_nil) ⟨_, _, .inl rfl, ll1, rfl⟩) a_nil)) fun σ2 H2 a2 => k ⟨1, Nat.lt_of_sub_eq_succ rfl⟩ σ2 H2 (show 2 - 1 < 2 - 0 by decide) (a2.wk (wk_some (fun _ _ h => h) (wk_some (fun _ _ h => h) (wk_some (fun _ _ h => h) wk_nil))))
      | 1, hi, hb, a, k => exact w_par a (a_cons (e_opI0 (g := fun i j => .int (i + j)) (e_var rfl) e_c) (a_cons (e_callT (R := LfI [1]) List.mem_cons_self (a_cons (e_var (R := LfI [0, 1, 0]) rfl) a_nil) ⟨_, _, .inr rfl, ll2, rfl⟩) a_nil)) fun σ2 H2 a2 => k ⟨2, Nat.lt_of_sub_eq_succ rfl⟩ σ2 H2 (show 2 - 2 < 2 - 1 by decide) (a2.wk (wk_some (fun _ _ h => h) (wk_some (fun _ _ h => h) (wk_some (fun _ _ h => h) wk_nil))))
      | 2, hi, hb, a, k => cases hb
    · rintro ⟨i, hi⟩ hb σ H a
      have hb := of_decide_eq_false hb
      have e : i = 2 := by
        have : ¬ i < 2 := hb
        omega
      subst e
      exact w_ret a (e_var rfl) fun v H' a' p => q v H' a'.kp a'.me p)
theorem cal_fall_kind (T : Gb mg) (C : C_fall_kind P w K mg base) (D : Dfn K mg "fall_kind" s_fall_kind) : C8.Cal P w K mg base 8 "fall_kind" (sp_fall_kind K) [] :=
  calT D sc_fall_kind bw_fall_kind (by rintro Rs R ⟨rfl, _⟩; rfl) (fun f cdv A outer s H E hr => der_fall_kind T C cdv A outer s H E hr) (by
    rintro Rs R ⟨rfl, rfl⟩ H0 σ H a Q q
    refine w_seq (w_drop a (e_call (a_cons (e_var rfl) a_nil) ⟨_, rfl, rfl⟩) fun H1 a1 => ?_)
    refine w_seq (w_if (b := false) a1 (t_test (e_eqI (i := 4) (e_prop (e_var rfl) ⟨_, rfl, rfl⟩) e_c)) (fun z => by cases z) fun _ H2 a2 => w_next ?_)
    refine w_seq (w_if (b := false) a2 (t_b (e_prop (e_var rfl) ⟨_, rfl, rfl⟩)) (fun z => by cases z) fun _ H3 a3 => w_next ?_)
    refine w_seq (w_set a3 (R := IsI 4) (e_opI (i := 2) (j := 2) e_c (e_callT List.mem_cons_self (a_cons (e_prop (R := TuI K [0, 0, 1, 0, 0]) (e_var rfl) ⟨_, rfl, rfl⟩) a_nil) ⟨rfl, rfl⟩) (.inl (by decide))) fun σ4 H4 a4 => ?_)
    exact w_seq (w_if (b := true) a4 (t_test (e_eqI (i := 4) (j := 4) (e_var rfl) (e_prop (e_var rfl) ⟨_, rfl, rfl⟩))) (fun _ H5 a5 => w_ret a5 e_c fun v H' a' p => q v H' a'.kp a'.me p) fun z => by cases z))
end
end K45
namespace K45
open PySem PySem.Spec PyProof.Rows L2
/-! ### the law: what it is called with, what it answers -/
def spLaw : Sp := fun vs H Q _ => ∃ (a : Addr) (ns : List Int) (v : V), vs = [v] ∧ (LfI ns).p v H ∧ GxR.TabG H 203 ∧ ∀ H', Q (.bl true) H'
def rows5 : List (List Int) := [[1, 0, -2], [1, 0, -3, 1], [1, 0, 0, 1, 0], [0, 1, 0, 0, 0, -1, 0], [3, 1]]
def told5 : List (List Int) := [[-16], [31104], [0, -31104], [172800, 0, 0, 0], []]
theorem told5_is : rows5.map inv = told5 := by decide +kernel
theorem told_edge : inv [0, 0, 1, 0, 0] = [96, -2304] := by decide +kernel
theorem rows5_ok : ∀ i, i < 5 → 2 ≤ (rows5.getD i []).length ∧ (rows5.getD i []).length ≤ 7 ∧ ∀ x ∈ rows5.getD i [], x.natAbs < 2 ^ 4 := by decide +kernel
section
variable {c : Ct} {rs : List (Option Rl)} {ms : Ms} {σ : L2.St} {H H' : Hp} {K : PySem.W.Frag} {R Ra Rb Rc : Rl} {te ta tb : TE} {tt : TT} {tr : TA} {Rs : List Rl} {nx : L2.St → Hp → Prop} {rt : VK} {bk ct : L2.St → Hp → Prop}
theorem dp_tups {H : Hp} : ∀ {fs : List (List Int)} {xs : List V}, Ps (fs.map (TuI K)) xs H → DpAll K H xs (fs.map fun f => PyData.tuple (f.map PyData.int))
  | [], [], _ => .nil
  | f :: fs, x :: xs, h => by
    obtain ⟨⟨a, e, h1⟩, h2⟩ := h
    subst e
    exact .cons (.tup h1 (dp_ints f)) (dp_tups h2)
  | [], _ :: _, h => h.elim
  | _ :: _, [], h => h.elim
theorem told5_sh : SeqAt.shaped (.list (told5.map fun f => PyData.tuple (f.map PyData.int))) = true := by decide +kernel
theorem told5_eq : PyData.eqv (.list (told5.map fun f => PyData.tuple (f.map PyData.int))) (.list (told5.map fun f => PyData.tuple (f.map PyData.int))) = true := by decide +kernel
theorem e_ne5 (ha : EJ c rs ms ta (LfR (told5.map (TuI K)))) (hb : EJ c rs ms tb (LfR (told5.map (TuI K)))) : EJ c rs ms (tOp (rNeD K) ta tb) (IsB false) :=
  e_op ha hb fun x y H ⟨a, xs, o, e1, h1, p1⟩ ⟨b, ys, o', e2, h2, p2⟩ Q q => by
    subst e1 e2
    refine ⟨_, _, .lst (sql_frz h1) (dp_tups p1), .lst (sql_frz h2) (dp_tups p2), told5_sh, told5_sh, q _ H (Kp.refl _ _) ?_⟩
    rw [told5_eq]; rfl
theorem dice3 {xs : List V} {H : Hp} (h : Ps [AnyI, AnyI, AnyI] xs H) : Dice xs := by
  obtain ⟨ns, e, hl, _⟩ := ps_inR (n := 3) h
  match ns, hl with
  | [a, b, d], _ => exact ⟨a, b, d, e⟩
/-- the dice are named -/
theorem w_setD {i : Nat} (a : At c rs ms σ H) (h : EL c rs ms te [AnyI, AnyI, AnyI]) (k : ∀ p σ' H', c.H0 p = none ∨ p ∉ c.d0 → At c (rs.set i (some (IsV (.ref p)))) ((p, Dice) :: ms) σ' H' → nx σ' H') : tAsg te (gName i) ⟨nx, rt, bk, ct⟩ σ H :=
  h σ H a _ fun p xs H1 a1 _ e pp => k p _ _ (.inr fun z => a1.out (a1.ds p z)) ((a1.add e (φ := Dice) (dice3 pp)).set (r := IsV (.ref p)) rfl)
theorem e_die {p : Addr} {i : Nat} (hd : (p, Dice) ∈ ms) (hp : rs[i]? = some (some (IsV (.ref p)))) : EJ c rs ms (tOp rAddI (tC (.int 1)) (tCall (sp__law_roll K) [] E0 (tCons (tVar i) (tCons (tC (.int 6)) tNil)))) (InR fun r => 1 ≤ r ∧ r ≤ 6) :=
  e_opN0 (g := fun i j => i + j) (φ := (· = 1)) (ψ := fun r => 0 ≤ r ∧ r < 6) (EJ.one e_c) (e_callD hd (a_cons (e_var hp) (a_cons e_c a_nil)) ⟨6, rfl, by decide, by decide, rfl⟩) fun i j h1 h2 => by omega
theorem e_gDice {p : Addr} {i : Nat} {S : List Rl → Rl → Prop} (hS : ∀ g : Nat, 1 ≤ g → g ≤ 6 → S [IsI (g : Int)] (IsB true)) (hd : (p, Dice) ∈ ms) (hp : rs[i]? = some (some (IsV (.ref p)))) (h : EJ c rs ms te (InR fun r => 1 ≤ r ∧ r ≤ 6)) : EJ c rs ms (tCall (spD S) [] E0 (tCons (tVar i) (tCons te tNil))) (IsB true) :=
  e_callDE (Rs := [InR fun r => 1 ≤ r ∧ r ≤ 6]) hd (a_cons (e_var hp) (a_cons h a_nil)) fun vs H p => by
    obtain ⟨v, rfl, r, hr, ev⟩ := ps1 p
    refine ⟨[IsI ((r.toNat : Nat) : Int)], IsB true, hS r.toNat (by omega) (by omega), ⟨?_, trivial⟩, fun v H' h => h⟩
    show v = V.int ((r.toNat : Nat) : Int)
    rw [show v = V.int r from ev, Int.toNat_of_nonneg (by omega)]
theorem gd_tups {i : Nat} {fs : List (List Int)} (h : i < fs.length) : ((fs.map (TuI K))[i]?).getD (IsV .non) = TuI K (fs.getD i []) := by
  simp [h]
end
end K45
namespace K45
open PySem PySem.Spec PyProof.Rows L2
local macro_rules | `(tactic| walk_at "ev") => `(tactic| repeat' first
  | exact e_var rfl | exact e_c | exact a_nil | refine a_cons ?_ ?_
  | refine e_opI0 ?_ ?_ | refine e_opI ?_ ?_ ?_ | refine e_eqI ?_ ?_ | refine e_neI ?_ ?_ | refine e_neg ?_
  | refine e_lenI ?_ | refine e_lenR ?_ | refine e_abs ?_ | refine e_max ?_ ?_ | refine e_min ?_ ?_ | refine e_intB ?_ | refine e_intI ?_
  | refine e_chain ?_ ?_ ?_ | refine e_ixI ?_ ?_ ?_ ?_ | refine e_ixR ?_ ?_ ?_ ?_
  | refine e_slHead ?_ ?_ ?_ | refine e_slTail ?_ ?_ ?_
  | refine t_test ?_ | refine t_b ?_ | refine e_ifI ?_ ?_ ?_
  | refine ij_zipT ?_ ?_ | refine ij_tupI ?_ | refine ij_rng ?_ ?_
  | exact g_name | exact g_pair)
local macro_rules | `(tactic| walk_at "evn") => `(tactic| repeat' first
  | exact e_var rfl | exact EJ.any e_c | exact EJ.any (e_var rfl) | exact EJ.anyN (e_var rfl) | refine e_diceC (d := ‹Addr›) List.mem_cons_self ?_ (by decide) | refine e_mulL (φ := fun _ => True) (by decide) ?_ | refine e_mulR (φ := fun _ => True) (by decide) ?_ | exact e_c
  | refine e_a0 ?_ ?_ | refine e_intN ?_)
local macro_rules | `(tactic| walk_at "wk") => `(tactic| repeat' first | exact wk_nil | refine wk_none ?_ | refine wk_some (fun _ _ h => h) ?_)
abbrev N_law : List Str := ["_law_script", "_law_spot", "_law_told", "_law_dice_here", "_law_turn", "_law_row"]
theorem sc_law : FnScope N_law ["_law_script"] (defScope s_law) := ⟨rfl, rfl, rfl, by decide +kernel, rfl, by decide +kernel, by decide +kernel⟩
def t_law (K : PySem.W.Frag) : TS := (tSeq (tFor (iRng1 (tCons (tCB rMax2 (tCons (tC (.int 1)) (tCons (tCB rMin2 (tCons (tC (.int 3)) (tCons (tCB (rLen K) (tCons (tVar 0) tNil)) tNil))) tNil))) tNil)) (gName 1) (tSeq (tAsg (tCall (sp__law_dice K) [] E0 (tCons (tVar 0) (tCons (tVar 1) tNil))) (gName 3))
  (tSeq (tFor (iRng1 (tCons (tC (.int 2)) tNil)) (gName 4) (tIfS (tOr (tNot (tB (tCall (sp__law_right K) [] E0 (tCons (tVar 3) (tCons (tOp rAddI (tC (.int 1)) (tCall (sp__law_roll K) [] E0 (tCons (tVar 3) (tCons (tC (.int 6)) tNil)))) tNil))))) (tNot (tB (tCall (sp__law_falls_right K) [] E0 (tCons (tVar 3) (tCons (tOp rAddI (tC (.int 1)) (tCall (sp__law_roll K) [] E0 (tCons (tVar 3) (tCons (tC (.int 6)) tNil)))) tNil)))))) (tRet (tC (.bl false))) tNext))
  (tIfS (tNot (tB (tCall (sp__law_falls_right K) [] E0 (tCons (tVar 3) (tCons (tCall (sp__law_pick K) [] E0 (tCons (tVar 3) (tCons (tFrz (tLst (tCons (tC (.int 4)) (tCons (tC (.int 5)) (tCons (tC (.int 6)) tNil))))) tNil))) tNil))))) (tRet (tC (.bl false))) tNext))))
  (tSeq (tFzS 2 (tAsg (tLc (iList K (tFrz (tLst (tCons (tTup (tCons (tC (.int 1)) (tCons (tC (.int 0)) (tCons (tUn rNegI (tC (.int 2))) tNil)))) (tCons (tTup (tCons (tC (.int 1)) (tCons (tC (.int 0)) (tCons (tUn rNegI (tC (.int 3))) (tCons (tC (.int 1)) tNil))))) (tCons (tTup (tCons (tC (.int 1)) (tCons (tC (.int 0)) (tCons (tC (.int 0)) (tCons (tC (.int 1)) (tCons (tC (.int 0)) tNil)))))) (tCons (tTup (tCons (tC (.int 0)) (tCons (tC (.int 1)) (tCons (tC (.int 0)) (tCons (tC (.int 0)) (tCons (tC (.int 0)) (tCons (tUn rNegI (tC (.int 1))) (tCons (tC (.int 0)) tNil)))))))) (tCons (tTup (tCons (tC (.int 3)) (tCons (tC (.int 1)) tNil))) tNil)))))))) (gName 5) tYes (tCall (sp_told_invariants K) [] E0 (tCons (tMake 511 (sp_Form K) [] E0 (tCons (tVar 5) tNil)) tNil)) [5]) (gName 2)))
  (tSeq (tIfS (tTest (tOp (rNeD K) (tVar 2) (tFrz (tLst (tCons (tTup (tCons (tUn rNegI (tC (.int 16))) tNil)) (tCons (tTup (tCons (tC (.int 31104)) tNil)) (tCons (tTup (tCons (tC (.int 0)) (tCons (tUn rNegI (tC (.int 31104))) tNil))) (tCons (tTup (tCons (tC (.int 172800)) (tCons (tC (.int 0)) (tCons (tC (.int 0)) (tCons (tC (.int 0)) tNil))))) (tCons (tTup tNil) tNil))))))))) (tRet (tC (.bl false))) tNext)
  (tRet (tAndV (tOp rEq (tCall (sp_fall_kind K) [] E0 (tCons (tMake 511 (sp_Form K) [] E0 (tCons (tTup (tCons (tC (.int 0)) (tCons (tC (.int 0)) (tCons (tC (.int 1)) (tCons (tC (.int 0)) (tCons (tC (.int 0)) tNil)))))) tNil)) tNil)) (tC (.str "edge"))) (tOp (rEqD K) (tCall (sp_told_invariants K) [] E0 (tCons (tMake 511 (sp_Form K) [] E0 (tCons (tTup (tCons (tC (.int 0)) (tCons (tC (.int 0)) (tCons (tC (.int 1)) (tCons (tC (.int 0)) (tCons (tC (.int 0)) tNil)))))) tNil)) tNil)) (tTup (tCons (tC (.int 96)) (tCons (tUn rNegI (tC (.int 2304))) tNil)))))))))
structure C_law (P : Program) (w : World) (K : PySem.W.Frag) (mg : Str → Option Value) (base : Heap) : Prop where
  _law_dice_ : C8.Cal P w K mg base 1 "_law_dice" (sp__law_dice K) []
  _law_roll_ : C8.Cal P w K mg base 1 "_law_roll" (sp__law_roll K) []
  _law_right_ : CalG P w K mg base 13 "_law_right" (sp__law_right K)
  _law_falls_right_ : C8.Cal P w K mg base 13 "_law_falls_right" (sp__law_falls_right K) []
  _law_pick_ : C8.Cal P w K mg base 2 "_law_pick" (sp__law_pick K) []
  told_invariants_ : C8.Cal P w K mg base 12 "told_invariants" (sp_told_invariants K) []
  fall_kind_ : C8.Cal P w K mg base 8 "fall_kind" (sp_fall_kind K) []
  Form_ : C8.Mak P w K mg base 5 "Form" 511 (sp_Form K) []
theorem der_law {P : Program} {w : World} {K : PySem.W.Frag} {mg : Str → Option Value} {base : Heap} {f : Addr} (T : Gb mg) (C : C_law P w K mg base) {A : Around} (hgd : A.guards = some []) (cdv : Value) (outer : List Env) (s : Shared) (H : Hp) (E : XK) (hr : Room 13 (A.deeper (envOfC "law" (defScope s_law) s.heap.objs.size f cdv))) :
    PSs (cxOf CX0 P w K mg base N_law "law" (defScope s_law) f cdv A outer s H E).nox (defBody s_law) (t_law K) :=
  (pss_cons (ps_for PassesOwn.never rfl (pi_range1 rfl T.range_ (pa_cons (pe_callB (call_max2 rfl) (by rfl) T.max_ (by decide +kernel) (pa_cons pe_int (pa_cons (pe_callB (call_min2 rfl) (by rfl) T.min_ (by decide +kernel) (pa_cons pe_int (pa_cons (pe_callB call_len_seq (by rfl) T.len_ (by decide +kernel) (pa_cons (pv 0) pa_nil)) pa_nil))) pa_nil))) pa_nil)) (pg_name (i := 1) sc_law.nd rfl (Or.inl rfl)) (pss_cons (ps_set (i := 3) sc_law.nd rfl (.inl rfl) (C8.pe_c C._law_dice_ hr (by decide) (by rfl) (pa_cons (pv 0) (pa_cons (pv 1) pa_nil))))
      (pss_cons (ps_for PassesOwn.never rfl (pi_range1 rfl T.range_ (pa_cons pe_int pa_nil)) (pg_name (i := 4) sc_law.nd rfl (Or.inl rfl)) (pss_one (ps_if (PW.pt (pw_or (pt_not (pt_val (pe_cG C._law_right_ hgd hr (by decide) (by rfl) (pa_cons (pv 3) (pa_cons (pe_op op_add pe_int (C8.pe_c C._law_roll_ hr (by decide) (by rfl) (pa_cons (pv 3) (pa_cons pe_int pa_nil)))) pa_nil))))) (pw_or1 (pt_not (pt_val (C8.pe_c C._law_falls_right_ hr (by decide) (by rfl) (pa_cons (pv 3) (pa_cons (pe_op op_add pe_int (C8.pe_c C._law_roll_ hr (by decide) (by rfl) (pa_cons (pv 3) (pa_cons pe_int pa_nil)))) pa_nil)))))))) (pss_one (ps_ret pe_bl)) pss_nil)))
      (pss_one (ps_if (pt_not (pt_val (C8.pe_c C._law_falls_right_ hr (by decide) (by rfl) (pa_cons (pv 3) (pa_cons (C8.pe_c C._law_pick_ hr (by decide) (by rfl) (pa_cons (pv 3) (pa_cons (pe_frz (pe_lst (pa_cons pe_int (pa_cons pe_int (pa_cons pe_int pa_nil))))) pa_nil))) pa_nil))))) (pss_one (ps_ret pe_bl)) pss_nil)))))
      (pss_cons (ps_frzS (i := 2) (ps_setLc (i := 2) (own := [("_law_row", 5)]) rfl sc_law.nd rfl rfl (sw_true rfl rfl rfl (by decide +kernel)) (pi_list (pe_frz (pe_lst (pa_cons (pe_tup (pa_cons pe_int (pa_cons pe_int (pa_cons (pe_un un_neg pe_int) pa_nil)))) (pa_cons (pe_tup (pa_cons pe_int (pa_cons pe_int (pa_cons (pe_un un_neg pe_int) (pa_cons pe_int pa_nil))))) (pa_cons (pe_tup (pa_cons pe_int (pa_cons pe_int (pa_cons pe_int (pa_cons pe_int (pa_cons pe_int pa_nil)))))) (pa_cons (pe_tup (pa_cons pe_int (pa_cons pe_int (pa_cons pe_int (pa_cons pe_int (pa_cons pe_int (pa_cons (pe_un un_neg pe_int) (pa_cons pe_int pa_nil)))))))) (pa_cons (pe_tup (pa_cons pe_int (pa_cons pe_int pa_nil))) pa_nil)))))))) (blkOk_by (own := [("_law_row", 5)]) (N := N_law) (sc := defScope s_law) (by decide +kernel)) (fun _ _ _ _ _ => (pg_name (i := 5) sc_law.nd rfl (Or.inl rfl))) (fun _ _ _ _ _ => pts_nil) (fun _ _ _ _ _ => (C8.pe_c C.told_invariants_ hr (by decide) (by rfl) (pa_cons (C8.pe_mk C.Form_ hr (by decide) (by rfl) (pa_cons (pv 5) pa_nil)) pa_nil)))))
      (pss_cons (ps_if (pt_cmpR (op_neD hr.units) (pv 2) (pe_frz (pe_lst (pa_cons (pe_tup (pa_cons (pe_un un_neg pe_int) pa_nil)) (pa_cons (pe_tup (pa_cons pe_int pa_nil)) (pa_cons (pe_tup (pa_cons pe_int (pa_cons (pe_un un_neg pe_int) pa_nil))) (pa_cons (pe_tup (pa_cons pe_int (pa_cons pe_int (pa_cons pe_int (pa_cons pe_int pa_nil))))) (pa_cons (pe_tup pa_nil) pa_nil))))))) (nomark _)) (pss_one (ps_ret pe_bl)) pss_nil)
      (pss_one (ps_ret (pe_and (pe_cmpR op_eq (C8.pe_c C.fall_kind_ hr (by decide) (by rfl) (pa_cons (C8.pe_mk C.Form_ hr (by decide) (by rfl) (pa_cons (pe_tup (pa_cons pe_int (pa_cons pe_int (pa_cons pe_int (pa_cons pe_int (pa_cons pe_int pa_nil)))))) pa_nil)) pa_nil)) pe_str (nomark _)) (pe_one (pe_cmpR (op_eqD hr.units) (C8.pe_c C.told_invariants_ hr (by decide) (by rfl) (pa_cons (C8.pe_mk C.Form_ hr (by decide) (by rfl) (pa_cons (pe_tup (pa_cons pe_int (pa_cons pe_int (pa_cons pe_int (pa_cons pe_int (pa_cons pe_int pa_nil)))))) pa_nil)) pa_nil)) (pe_tup (pa_cons pe_int (pa_cons (pe_un un_neg pe_int) pa_nil))) (nomark _)))))))))
theorem bw_law : BindsW "law" s_law ["_law_script"] := fun kV doc pm an cdv ct us h => by
  match us, h with
  | [_], _ => rfl
section
variable {P : Program} {w : World} {K : PySem.W.Frag} {mg : Str → Option Value} {base : Heap}
theorem fn_law (T : Gb mg) (C : C_law P w K mg base) {f : Addr} {fd : FuncData} (F : FnP K "law" s_law f fd) : FnG P w K mg base 14 f fd ["_law_script"] spLaw := by
  refine fnG_of F sc_law (fun vs H Q E h => ?_) fun cdv A outer s Hz vs Q E hg hr h => ⟨t_law K, (der_law T C hg cdv outer s Hz E hr).nox, ?_⟩
  · obtain ⟨a, ns, v, rfl, _⟩ := h; rfl
  obtain ⟨_, ns, v, rfl, hv, hT, q⟩ := h
  have a : At ⟨Hz, [], [gTab 203]⟩ (rs0 N_law.length [LfI ns]) [] (L2.start N_law [v]) Hz := by
    have a := at_start (H := Hz) (N := N_law) (Rs := [LfI ns]) (vs := [v]) (ms := []) (d0 := []) ⟨hv, trivial⟩ (fun m hm => by cases hm) List.nodup_nil rfl
    exact ⟨a.kp, a.fr, a.ds, (fun g hg => by
      have : g = gTab 203 := by simpa using hg
      subst this; exact hT), a.len, a.sl, a.me, a.nd⟩
  refine w_seq (w_for a (ij_rng (n := if (if (ns.length : Int) < 3 then (ns.length : Int) else 3) > 1 then (if (ns.length : Int) < 3 then (ns.length : Int) else 3) else 1) (a_cons (e_max e_c (e_min e_c (e_lenF (e_var rfl)))) a_nil) (by split <;> (try split) <;> omega)) (fun i => [some (LfI ns), none, none, none, none, none]) (fun i => [some (LfI ns), some (IsI (i : Int)), none, none, none, none]) (fun _ => []) (fun c σ H b => b.wk (by walk_at "wk")) (fun i m hm => by cases hm) (fun i hi c => g_name) (fun i hi gg nx' bk' ct' σ H b k => ?_) fun σ1 H1 a1 => ?_)
  · refine w_seq (w_setD b (el_callX (xs := []) (a_cons (e_var rfl) (a_cons (e_var rfl) a_nil)) (fun m hm => by cases hm) List.nodup_nil ⟨ns, i, rfl, rfl, rfl⟩) fun p σ2 H2 hp b2 => ?_)
    have hp : p ∉ ([] : List Addr) := by simp
    refine w_seq (w_for b2 (ij_rng (n := 2) (a_cons e_c a_nil) (by decide)) (fun i => [some (LfI ns), none, none, some (IsV (.ref p)), none, none]) (fun i => [some (LfI ns), none, none, some (IsV (.ref p)), some (IsI (i : Int)), none]) (fun _ => [(p, Dice)]) (fun c σ H b => b.wk (by walk_at "wk")) (fun i m hm => by cases hm) (fun i hi c => g_name) (fun i hi gg nx' bk' ct' σ H b k => ?_) fun σ3 H3 b3 => ?_)
    · refine w_if (b := false) b (t_or (a := false) (b := false) (t_not (a := true) (t_b (e_gDice (fun g h1 h6 => ⟨g, rfl, h1, h6, rfl⟩) List.mem_cons_self rfl (e_die List.mem_cons_self rfl)))) fun _ => t_not (a := true) (t_b (e_gDice (fun g h1 h6 => ⟨g, rfl, h1, h6, rfl⟩) List.mem_cons_self rfl (e_die List.mem_cons_self rfl)))) (fun z => by cases z) fun _ H4 b4 => w_next (k _ _ (b4.wk (by walk_at "wk")))
    · have hk : EJ (Ct.add ⟨Hz, [], [gTab 203]⟩ gg) [some (LfI ns), none, none, some (IsV (.ref p)), none, none] [(p, Dice)] (tCall (sp__law_pick K) [] E0 (tCons (tVar 3) (tCons (tFrz (tLst (tCons (tC (.int 4)) (tCons (tC (.int 5)) (tCons (tC (.int 6)) tNil))))) tNil))) (InR fun r => 1 ≤ r ∧ r ≤ 6) :=
        (e_callD (R := InR (· ∈ ([4, 5, 6] : List Int))) List.mem_cons_self (a_cons (e_var rfl) (a_cons (e_frzI (ns := [4, 5, 6]) (el_lst (a_cons e_c (a_cons e_c (a_cons e_c a_nil))) (by simp))) a_nil)) ⟨[4, 5, 6], rfl, by decide, by decide, rfl⟩).weak fun v H ⟨r, hr, ev⟩ => ⟨r, by
          have : r = 4 ∨ r = 5 ∨ r = 6 := by simpa using hr
          omega, ev⟩
      exact w_if (b := false) b3 (t_not (a := true) (t_b (e_gDice (fun g h1 h6 => ⟨g, rfl, h1, h6, rfl⟩) List.mem_cons_self rfl hk))) (fun z => by cases z) fun _ H4 b4 => w_next (k _ _ ((b4.drop hp).wk (by walk_at "wk")))
  · have hrow : EJ ⟨Hz, [], [gTab 203]⟩ [some (LfI ns), none, none, none, none, none] [] (tFrz (tLst (tCons (tTup (tCons (tC (.int 1)) (tCons (tC (.int 0)) (tCons (tUn rNegI (tC (.int 2))) tNil)))) (tCons (tTup (tCons (tC (.int 1)) (tCons (tC (.int 0)) (tCons (tUn rNegI (tC (.int 3))) (tCons (tC (.int 1)) tNil))))) (tCons (tTup (tCons (tC (.int 1)) (tCons (tC (.int 0)) (tCons (tC (.int 0)) (tCons (tC (.int 1)) (tCons (tC (.int 0)) tNil)))))) (tCons (tTup (tCons (tC (.int 0)) (tCons (tC (.int 1)) (tCons (tC (.int 0)) (tCons (tC (.int 0)) (tCons (tC (.int 0)) (tCons (tUn rNegI (tC (.int 1))) (tCons (tC (.int 0)) tNil)))))))) (tCons (tTup (tCons (tC (.int 3)) (tCons (tC (.int 1)) tNil))) tNil))))))) (LfR (rows5.map (TuI K))) :=
      e_frz (el_lst (a_cons (e_tupI (ns := [1, 0, -2]) (a_cons e_c (a_cons e_c (a_cons (e_neg e_c) a_nil))) (by simp)) (a_cons (e_tupI (ns := [1, 0, -3, 1]) (a_cons e_c (a_cons e_c (a_cons (e_neg e_c) (a_cons e_c a_nil)))) (by simp)) (a_cons (e_tupI (ns := [1, 0, 0, 1, 0]) (a_cons e_c (a_cons e_c (a_cons e_c (a_cons e_c (a_cons e_c a_nil))))) (by simp)) (a_cons (e_tupI (ns := [0, 1, 0, 0, 0, -1, 0]) (a_cons e_c (a_cons e_c (a_cons e_c (a_cons e_c (a_cons e_c (a_cons (e_neg e_c) (a_cons e_c a_nil))))))) (by simp)) (a_cons (e_tupI (ns := [3, 1]) (a_cons e_c (a_cons e_c a_nil)) (by simp)) a_nil))))) (show 5 ≤ 1000 by decide))
    have hlist := ij_listFR (K := K) hrow
    refine w_seq (w_setF (Rs := told5.map (TuI K)) a1 (show 2 < 6 by decide) ?_ fun σ2 H2 a2 => ?_)
    · have e : told5.map (TuI K) = (List.range 5).map fun i => TuI K (inv (rows5.getD i [])) := by rw [← told5_is]; rfl
      rw [e]
      refine el_lc0 (n := 5) (vs := [5]) (rs' := fun i => [some (LfI ns), none, none, none, none, some (TuI K (rows5.getD i []))]) (Y := fun i => ((rows5.map (TuI K))[i]?).getD (IsV .non)) hlist (by decide) (fun i hi c ms => ?_) (fun i hi y D acc => ?_)
      · rw [gd_tups (fs := rows5) hi]; exact g_name
      · obtain ⟨h2, h7, hb⟩ := rows5_ok i hi
        have hbd : Bd 4 (rows5.getD i []) := Bd.of hb
        exact e_call (a_cons (e_make (a_cons (e_var rfl) a_nil) (.inl ⟨rfl, hbd.mono (by decide), by omega, by omega⟩)) a_nil) ⟨_, rfl, h2, h7, hbd.mono (by decide), rfl⟩
    · have h5 : EJ ⟨Hz, [], [gTab 203]⟩ [some (LfI ns), none, some (LfR (told5.map (TuI K))), none, none, none] [] (tFrz (tLst (tCons (tTup (tCons (tUn rNegI (tC (.int 16))) tNil)) (tCons (tTup (tCons (tC (.int 31104)) tNil)) (tCons (tTup (tCons (tC (.int 0)) (tCons (tUn rNegI (tC (.int 31104))) tNil))) (tCons (tTup (tCons (tC (.int 172800)) (tCons (tC (.int 0)) (tCons (tC (.int 0)) (tCons (tC (.int 0)) tNil))))) (tCons (tTup tNil) tNil))))))) (LfR (told5.map (TuI K))) :=
        e_frz (el_lst (a_cons (e_tupI (ns := [-16]) (a_cons (e_neg e_c) a_nil) (by simp)) (a_cons (e_tupI (ns := [31104]) (a_cons e_c a_nil) (by simp)) (a_cons (e_tupI (ns := [0, -31104]) (a_cons e_c (a_cons (e_neg e_c) a_nil)) (by simp)) (a_cons (e_tupI (ns := [172800, 0, 0, 0]) (a_cons e_c (a_cons e_c (a_cons e_c (a_cons e_c a_nil)))) (by simp)) (a_cons (e_tupI (ns := []) a_nil (by simp)) a_nil))))) (show 5 ≤ 1000 by decide))
      refine w_seq (w_if (b := false) a2 (t_test (e_ne5 (e_var rfl) h5)) (fun z => by cases z) fun _ H3 a3 => w_next ?_)
      have hF : EJ ⟨Hz, [], [gTab 203]⟩ [some (LfI ns), none, some (LfR (told5.map (TuI K))), none, none, none] [] (tMake 511 (sp_Form K) [] E0 (tCons (tTup (tCons (tC (.int 0)) (tCons (tC (.int 0)) (tCons (tC (.int 1)) (tCons (tC (.int 0)) (tCons (tC (.int 0)) tNil)))))) tNil)) (FmR K [0, 0, 1, 0, 0]) :=
        e_make (a_cons (e_tupI (ns := [0, 0, 1, 0, 0]) (a_cons e_c (a_cons e_c (a_cons e_c (a_cons e_c (a_cons e_c a_nil))))) (by simp)) a_nil) (.inl ⟨rfl, (Bd.of (n := 4) (by decide)).mono (by decide), by decide, by decide⟩)
      have hI : EJ ⟨Hz, [], [gTab 203]⟩ [some (LfI ns), none, some (LfR (told5.map (TuI K))), none, none, none] [] (tCall (sp_told_invariants K) [] E0 (tCons (tMake 511 (sp_Form K) [] E0 (tCons (tTup (tCons (tC (.int 0)) (tCons (tC (.int 0)) (tCons (tC (.int 1)) (tCons (tC (.int 0)) (tCons (tC (.int 0)) tNil)))))) tNil)) tNil)) (TuI K [96, -2304]) :=
        e_call (a_cons hF a_nil) ⟨_, rfl, by decide, by decide, (Bd.of (n := 4) (by decide)).mono (by decide), by rw [told_edge]⟩
      refine w_ret a3 (R := IsB true) ((e_andV (a := decide (("edge" : Str) = "edge")) (b := decide (([96, -2304] : List Int) = [96, -2304])) (e_eqS (e_callT List.mem_cons_self (a_cons hF a_nil) ⟨rfl, rfl⟩) e_c) fun _ => e_eqT hI (e_tupI (ns := [96, -2304]) (a_cons e_c (a_cons (e_neg e_c) a_nil)) (by simp))).isB (by decide +kernel)) fun v H' a' p => ?_
      cases (show v = .bl true from p)
      exact q H'
end
end K45
namespace K45
open PySem PySem.Spec PyProof.Rows L2
/-! ### the head's facts, told -/
structure Fx (K : PySem.W.Frag) : Prop where
  gl_ : gl.all (glOk K) = true
  in_ : ([("GREATEST", 10 ^ 60), ("MAX_DEGREE", 40), ("MOST_LAID", 40), ("MAX_TOLD", 6)] : List (Str × Int)).all (inOk K) = true
  gcd_ : gcdOk K = true
  kit_ : kitOk K = true
  ct_ : clOk K 337 333 = true
  cf_ : clOk K 511 362 = true
  it_ : isiOk K 337 = true
  if_ : isiOk K 511 = true
  st_ : slOk K 337 "own_row" 338 = true
  sf_ : slOk K 511 "own_entries" 512 = true
  pe_ : prOk K 511 "entries" 390 389 = true
  pd_ : prOk K 511 "degree" 398 397 = true
  pz_ : prOk K 511 "is_zero" 406 405 = true
  no_ : noLst K = true
  n2_ : (K.lookup 203).isNone = true
  ok_ : (fnAll.all fun d => d.ok K) = true
  fn_ : (fnAll.map fun d => fnA K d.a) = fnAll.map DA.val
theorem fx_of {g : Addr → Option Obj} (e : obsAll g = valAll) : Fx (He.frG g hds) ∧ tabOk g = true ∧ cdOk g = true :=
  ⟨⟨congrArg (fun x : AlL => x.1.1) e, congrArg (fun x : AlL => x.1.2.1) e, congrArg (fun x : AlL => x.1.2.2.1) e, congrArg (fun x : AlL => x.1.2.2.2.2.2) e, congrArg (fun x : AlL => x.2.1.1) e, congrArg (fun x : AlL => x.2.1.2.1) e, congrArg (fun x : AlL => x.2.1.2.2.1) e,
    congrArg (fun x : AlL => x.2.1.2.2.2.1) e, congrArg (fun x : AlL => x.2.1.2.2.2.2.1) e, congrArg (fun x : AlL => x.2.1.2.2.2.2.2) e, congrArg (fun x : AlL => x.2.2.1.1) e, congrArg (fun x : AlL => x.2.2.1.2.1) e, congrArg (fun x : AlL => x.2.2.1.2.2.1) e,
    congrArg (fun x : AlL => x.2.2.1.2.2.2.1) e, congrArg (fun x : AlL => x.2.2.1.2.2.2.2.1) e, congrArg (fun x : AlL => x.2.2.1.2.2.2.2.2) e, congrArg (fun x : AlL => x.2.2.2) e⟩, congrArg (fun x : AlL => x.1.2.2.2.1) e, congrArg (fun x : AlL => x.1.2.2.2.2.1) e⟩
section
variable {K : PySem.W.Frag} {base : Heap} {mg : Str → Option Value}
theorem Fx.g (F : Fx K) (X : K.In base) (G : base.Ns mainGlobals mg) (i : Nat) {x : Str} {o : Option Addr} (h : gl[i]? = some (x, o)) : mg x = o.map Value.ref := by
  have e : PySem.W.nsIn K mainGlobals x = some (o.map Value.ref) := of_decide_eq_true (List.all_eq_true.mp F.gl_ _ (List.mem_of_getElem? h))
  cases o with
  | none => exact PySem.W.mg_none_of X G e
  | some a => exact PySem.W.mg_of X G e
theorem Fx.i (F : Fx K) (X : K.In base) (G : base.Ns mainGlobals mg) {x : Str} {n : Int} (h : (x, n) ∈ ([("GREATEST", 10 ^ 60), ("MAX_DEGREE", 40), ("MOST_LAID", 40), ("MAX_TOLD", 6)] : List (Str × Int))) : ∃ u, mg x = some u ∧ RelV (.int n) u := by
  have c := List.all_eq_true.mp F.in_ _ h
  unfold inOk at c
  dsimp only at c
  split at c
  · next j t e => exact ⟨_, PySem.W.mg_of X G e, t, by rw [of_decide_eq_true c]⟩
  · cases c
theorem Fx.d (F : Fx K) (i : Nat) {d : DA} (h : fnAll[i]? = some d) : ∃ fd, FunD K d.name d.qual d.params d.body d.scope [] [] d.a fd ∧ fd.code = .ref d.c := by
  have e := congrArg (fun l : List FnA => l[i]?) F.fn_
  have e : (fnAll.map fun d => fnA K d.a)[i]? = (fnAll.map DA.val)[i]? := e
  rw [List.getElem?_map, List.getElem?_map, h] at e
  exact DA.funD (Option.some.inj e) (List.all_eq_true.mp F.ok_ _ (List.mem_of_getElem? h))
theorem Fx.dfn (F : Fx K) (X : K.In base) (G : base.Ns mainGlobals mg) (i j : Nat) {x : Str} {st : Stmt} {a c : Addr} (h : fnAll[i]? = some ⟨a, c, x, x, defArgs st, defBody st, defScope st⟩) (hg : gl[j]? = some (x, some a)) : Dfn K mg x st :=
  let ⟨fd, f, _⟩ := F.d i h
  ⟨⟨a, fd, f, F.g X G j hg⟩⟩
theorem Fx.dfnC (F : Fx K) (X : K.In base) (G : base.Ns mainGlobals mg) (i j : Nat) {x : Str} {st : Stmt} {a c : Addr} (h : fnAll[i]? = some ⟨a, c, x, x, defArgs st, defBody st, defScope st⟩) (hg : gl[j]? = some (x, some a)) : DfnC K mg x st (.ref c) :=
  let ⟨fd, f, e⟩ := F.d i h
  ⟨⟨a, fd, f, e, F.g X G j hg⟩⟩
theorem Fx.gb (F : Fx K) (X : K.In base) (G : base.Ns mainGlobals mg) : Gb mg :=
  ⟨F.g X G 0 rfl, F.g X G 8 rfl, F.g X G 9 rfl, F.g X G 10 rfl, F.g X G 12 rfl, F.g X G 11 rfl, F.g X G 4 rfl, F.g X G 3 rfl, F.g X G 1 rfl, F.g X G 2 rfl, F.g X G 6 rfl, F.g X G 7 rfl, F.g X G 5 rfl, F.g X G 13 rfl, F.g X G 14 rfl, F.g X G 15 rfl, F.g X G 80 rfl, F.g X G 81 rfl, PySem.W.mg_of X G (of_decide_eq_true F.gcd_), F.i X G List.mem_cons_self, F.i X G (List.mem_cons_of_mem _ List.mem_cons_self), F.i X G (List.mem_cons_of_mem _ (List.mem_cons_of_mem _ List.mem_cons_self)), F.i X G (List.mem_cons_of_mem _ (List.mem_cons_of_mem _ (List.mem_cons_of_mem _ List.mem_cons_self)))⟩
theorem cl1 {C g p : Addr} {f : Str} (hc : clOk K C g = true) (hi : isiOk K C = true) (hs : slOk K C f p = true) : Cl1 K C f p g := by
  obtain ⟨c1, hc⟩ := Bool.and_eq_true_iff.mp hc
  obtain ⟨c2, hc⟩ := Bool.and_eq_true_iff.mp hc
  obtain ⟨c3, hc⟩ := Bool.and_eq_true_iff.mp hc
  obtain ⟨c4, hc⟩ := Bool.and_eq_true_iff.mp hc
  obtain ⟨c5, hc⟩ := Bool.and_eq_true_iff.mp hc
  obtain ⟨c6, hc⟩ := Bool.and_eq_true_iff.mp hc
  obtain ⟨c7, c8⟩ := Bool.and_eq_true_iff.mp hc
  obtain ⟨i1, hi⟩ := Bool.and_eq_true_iff.mp hi
  obtain ⟨i2, hi⟩ := Bool.and_eq_true_iff.mp hi
  obtain ⟨i3, hi⟩ := Bool.and_eq_true_iff.mp hi
  obtain ⟨i4, i5⟩ := Bool.and_eq_true_iff.mp hi
  obtain ⟨s1, hs⟩ := Bool.and_eq_true_iff.mp hs
  obtain ⟨s2, hs⟩ := Bool.and_eq_true_iff.mp hs
  obtain ⟨s3, hs⟩ := Bool.and_eq_true_iff.mp hs
  obtain ⟨s4, s5⟩ := Bool.and_eq_true_iff.mp hs
  exact ⟨⟨c5, c6, c7, of_decide_eq_true c8⟩, ⟨of_decide_eq_true s1, of_decide_eq_true s2, of_decide_eq_true s3, of_decide_eq_true s4, of_decide_eq_true s5, by decide⟩, ⟨of_decide_eq_true i1, of_decide_eq_true i2, of_decide_eq_true i3, of_decide_eq_true i4⟩, of_decide_eq_true i5, ⟨c1, of_decide_eq_true c2, c3, c4⟩⟩
theorem Fx.cf (F : Fx K) : Cf K := ⟨cl1 F.ct_ F.it_ F.st_, cl1 F.cf_ F.if_ F.sf_, of_decide_eq_true F.kit_⟩
theorem pr_of {P : Program} {w : World} {f : Str} {p g : Addr} {fd : FuncData} {ps : List Str} {j : Nat} {sp : Sp} (k : Cf K) (F : FnOk P w K mg base CX0 j g fd ps sp) (b : Binds K fd ps []) (h : prOk K 511 f p g = true) : Prp P w K mg base j f sp := by
  obtain ⟨h1, h⟩ := Bool.and_eq_true_iff.mp h
  obtain ⟨h2, h⟩ := Bool.and_eq_true_iff.mp h
  obtain ⟨h3, h4⟩ := Bool.and_eq_true_iff.mp h
  refine prp_of k F b (of_decide_eq_true h1) (of_decide_eq_true h2) (of_decide_eq_true h3) ?_
  split at h4
  · next a rest e => exact ⟨rest, by rw [e, of_decide_eq_true h4]⟩
  · cases h4
theorem Fx.prentries (F : Fx K) : prOk K 511 "entries" 390 389 = true := F.pe_
theorem Fx.prdegree (F : Fx K) : prOk K 511 "degree" 398 397 = true := F.pd_
theorem Fx.pris_zero (F : Fx K) : prOk K 511 "is_zero" 406 405 = true := F.pz_
theorem Fx.noL (F : Fx K) {a : Addr} {o : Obj} (e : K.lookup a = some o) : o.cls ≠ .type "list" := fun z => by
  have hm : (a, o) ∈ K := PySem.W.mem_of_lookupK e
  have := List.all_eq_true.mp F.no_ _ hm
  dsimp only at this
  rw [z] at this
  cases this
end
theorem law_fn {P : Program} {w : World} {K : PySem.W.Frag} {mg : Str → Option Value} {base : Heap} (F : Fx K) (X : K.In base) (G : base.Ns mainGlobals mg) (TB : GxR.TabB base mg 207 203) {fd : FuncData} (FL : FnP K "law" s_law 816 fd) : FnG P w K mg base 14 816 fd ["_law_script"] spLaw := by
  have T : Gb mg := F.gb X G
  have k : Cf K := F.cf
  have c__law_dice : C8.Cal P w K mg base 1 "_law_dice" (sp__law_dice K) [] := cal__law_dice T (F.dfn X G 32 48 rfl rfl)
  have c__law_roll : C8.Cal P w K mg base 1 "_law_roll" (sp__law_roll K) [] := cal__law_roll T (F.dfn X G 33 49 rfl rfl)
  have c__law_near : C8.Cal P w K mg base 2 "_law_near" (sp__law_near K) [] := cal__law_near T ⟨c__law_roll⟩ (F.dfn X G 36 52 rfl rfl)
  have c__law_table : C8.Cal P w K mg base 3 "_law_table" (sp__law_table K) [] := cal__law_table T ⟨c__law_near⟩ (F.dfn X G 56 72 rfl rfl)
  have c__law_gcd : C8.Cal P w K mg base 1 "_law_gcd" (sp__law_gcd K) [] := cal__law_gcd T (F.dfn X G 37 53 rfl rfl)
  have c__law_shared : C8.Cal P w K mg base 2 "_law_shared" (sp__law_shared K) [] := cal__law_shared T ⟨c__law_gcd⟩ (F.dfn X G 38 54 rfl rfl)
  have c__law_plain : C8.Cal P w K mg base 3 "_law_plain" (sp__law_plain K) [] := cal__law_plain T ⟨c__law_shared⟩ (F.dfn X G 51 67 rfl rfl)
  have c__law_point : C8.Cal P w K mg base 4 "_law_point" (sp__law_point K) [] := cal__law_point T ⟨c__law_near, c__law_plain⟩ (F.dfn X G 53 69 rfl rfl)
  have c__law_line : C8.Cal P w K mg base 1 "_law_line" (sp__law_line K) [] := cal__law_line T (F.dfn X G 52 68 rfl rfl)
  have c__law_product : C8.Cal P w K mg base 1 "_law_product" (sp__law_product K) [] := cal__law_product T (F.dfn X G 43 59 rfl rfl)
  have c__law_all_product : C8.Cal P w K mg base 2 "_law_all_product" (sp__law_all_product K) [] := cal__law_all_product T ⟨c__law_product⟩ (F.dfn X G 44 60 rfl rfl)
  have c__law_small_form : C8.Cal P w K mg base 3 "_law_small_form" (sp__law_small_form K) [] := cal__law_small_form T ⟨c__law_near⟩ (F.dfn X G 54 70 rfl rfl)
  have c__law_power : C8.Cal P w K mg base 2 "_law_power" (sp__law_power K) [] := cal__law_power T ⟨c__law_product⟩ (F.dfn X G 45 61 rfl rfl)
  have c__law_scaled : C8.Cal P w K mg base 1 "_law_scaled" (sp__law_scaled K) [] := cal__law_scaled T (F.dfn X G 42 58 rfl rfl)
  have c__law_plus : C8.Cal P w K mg base 1 "_law_plus" (sp__law_plus K) [] := cal__law_plus T (F.dfn X G 41 57 rfl rfl)
  have c__law_form : C8.Cal P w K mg base 5 "_law_form" (sp__law_form K) [] := cal__law_form T ⟨c__law_roll, c__law_point, c__law_line, c__law_all_product, c__law_small_form, c__law_power, c__law_product, c__law_near, c__law_scaled, c__law_plus⟩ (F.dfn X G 55 71 rfl rfl)
  have c__law_by_x : C8.Cal P w K mg base 1 "_law_by_x" (sp__law_by_x K) [] := cal__law_by_x T (F.dfn X G 46 62 rfl rfl)
  have c__law_by_y : C8.Cal P w K mg base 1 "_law_by_y" (sp__law_by_y K) [] := cal__law_by_y T (F.dfn X G 47 63 rfl rfl)
  have c__law_derived : C8.Cal P w K mg base 2 "_law_derived" (sp__law_derived K) [] := cal__law_derived T ⟨c__law_by_x, c__law_by_y⟩ (F.dfn X G 48 64 rfl rfl)
  have c__law_choose : C8.Cal P w K mg base 1 "_law_choose" (sp__law_choose K) [] := cal__law_choose T (F.dfn X G 40 56 rfl rfl)
  have c__law_laid : C8.Cal P w K mg base 3 "_law_laid" (sp__law_laid K) [] := cal__law_laid T ⟨c__law_derived, c__law_product, c__law_choose, c__law_scaled, c__law_plus⟩ (F.dfn X G 49 65 rfl rfl)
  have c__law_invariants : C8.Cal P w K mg base 4 "_law_invariants" (sp__law_invariants K) [] := cal__law_invariants T ⟨c__law_laid⟩ (F.dfn X G 59 75 rfl rfl)
  have c_require_form : C8.Cal P w K mg base 1 "require_form" (sp_require_form K) [] := cal_require_form T k (F.dfn X G 18 34 rfl rfl)
  obtain ⟨_, f_degree, _⟩ := F.d 67 (d := d_Form_degree) rfl
  have p_degree : Prp P w K mg base 1 "degree" (sp_Form_degree K) := pr_of k (ok_degree T k f_degree) (FunD.bindsN f_degree bw_Form_degree) F.prdegree
  have c_require_told : C8.Cal P w K mg base 3 "require_told" (sp_require_told K) [] := cal_require_told T ⟨c_require_form, p_degree⟩ (F.dfn X G 24 40 rfl rfl)
  have c_is_whole : C8.Cal P w K mg base 1 "is_whole" (sp_is_whole K) [] := cal_is_whole T (F.dfn X G 0 16 rfl rfl)
  have c_is_from : C8.Cal P w K mg base 2 "is_from" (sp_is_from K) [] := cal_is_from T ⟨c_is_whole⟩ (F.dfn X G 2 18 rfl rfl)
  have c_laying_slope : C8.Cal P w K mg base 1 "laying_slope" (sp_laying_slope K) [] := cal_laying_slope T (F.dfn X G 19 35 rfl rfl)
  have c_laying_slopes : C8.Cal P w K mg base 2 "laying_slopes" (sp_laying_slopes K) [] := cal_laying_slopes T ⟨c_laying_slope⟩ (F.dfn X G 20 36 rfl rfl)
  have c_lots_of : C8.Cal P w K mg base 1 "lots_of" (sp_lots_of K) [] := cal_lots_of T (F.dfn X G 7 23 rfl rfl)
  have c_add_product : C8.Cal P w K mg base 1 "add_product" (sp_add_product K) [] := cal_add_product T (F.dfn X G 21 37 rfl rfl)
  have c_laid_in : C8.Cal P w K mg base 3 "laid_in" (sp_laid_in K) [] := cal_laid_in T ⟨c_laying_slopes, c_lots_of, c_add_product⟩ (F.dfn X G 22 38 rfl rfl)
  obtain ⟨_, f_Told, _⟩ := F.d 64 (d := d_Told_init) rfl
  have m_Told : C8.Mak P w K mg base 1 "Told" 337 (sp_Told K) [] := mak_Told T k f_Told
  have c_is_short : C8.Cal P w K mg base 2 "is_short" (sp_is_short K) [] := cal_is_short T ⟨c_is_whole⟩ (F.dfn X G 1 17 rfl rfl)
  have c_are_short : C8.Cal P w K mg base 3 "are_short" (sp_are_short K) [] := cal_are_short T ⟨c_is_short⟩ (F.dfn X G 3 19 rfl rfl)
  have c_are_entries : C8.Cal P w K mg base 4 "are_entries" (sp_are_entries K) [] := cal_are_entries T ⟨c_are_short⟩ (F.dfn X G 16 32 rfl rfl)
  obtain ⟨_, f_Form, _⟩ := F.d 65 (d := d_Form_init) rfl
  have m_Form : C8.Mak P w K mg base 5 "Form" 511 (sp_Form K) [] := mak_Form T ⟨c_are_entries⟩ k f_Form
  have c_form_of : C8.Cal P w K mg base 7 "form_of" (sp_form_of K) [] := cal_form_of T ⟨m_Told, m_Form⟩ (F.dfn X G 17 33 rfl rfl)
  obtain ⟨_, f_entries, _⟩ := F.d 66 (d := d_Form_entries) rfl
  have p_entries : Prp P w K mg base 1 "entries" (sp_Form_entries K) := pr_of k (ok_entries T k f_entries) (FunD.bindsN f_entries bw_Form_entries) F.prentries
  have c_laid : C8.Cal P w K mg base 8 "laid" (sp_laid K) [] := cal_laid T ⟨c_require_form, c_is_from, c_laid_in, c_form_of, p_degree, p_entries⟩ (F.dfn X G 23 39 rfl rfl)
  have c_last_entry : C8.Cal P w K mg base 9 "last_entry" (sp_last_entry K) [] := cal_last_entry T ⟨c_laid, p_entries⟩ (F.dfn X G 27 43 rfl rfl)
  have c_told_of_five : C8.Cal P w K mg base 10 "told_of_five" (sp_told_of_five K) [] := cal_told_of_five T ⟨c_laid, c_last_entry⟩ (F.dfn X G 28 44 rfl rfl)
  have c_told_of_six : C8.Cal P w K mg base 10 "told_of_six" (sp_told_of_six K) [] := cal_told_of_six T ⟨c_laid, c_last_entry⟩ (F.dfn X G 29 45 rfl rfl)
  have c_told_in : C8.Cal P w K mg base 11 "told_in" (sp_told_in K) [] := cal_told_in T ⟨c_last_entry, c_told_of_five, c_told_of_six, c_laid, p_degree⟩ (F.dfn X G 30 46 rfl rfl)
  have c_told_invariants : C8.Cal P w K mg base 12 "told_invariants" (sp_told_invariants K) [] := cal_told_invariants T ⟨c_require_told, c_told_in⟩ (F.dfn X G 31 47 rfl rfl)
  have c__law_changed : C8.Cal P w K mg base 3 "_law_changed" (sp__law_changed K) [] := cal__law_changed T ⟨c__law_power, c__law_product, c__law_scaled, c__law_plus⟩ (F.dfn X G 50 66 rfl rfl)
  have c__law_sizes : C8.Cal P w K mg base 1 "_law_sizes" (sp__law_sizes K) [] := cal__law_sizes T (F.dfn X G 60 76 rfl rfl)
  have c__law_det : C8.Cal P w K mg base 1 "_law_det" (sp__law_det K) [] := cal__law_det T (F.dfn X G 57 73 rfl rfl)
  have c__law_raised : C8.Cal P w K mg base 1 "_law_raised" (sp__law_raised K) [] := cal__law_raised T (F.dfn X G 39 55 rfl rfl)
  have c__law_right : CalG P w K mg base 13 "_law_right" (sp__law_right K) := calG__law_right T ⟨c__law_table, c__law_form, c__law_invariants, c_told_invariants, c__law_changed, c__law_sizes, c__law_det, c__law_raised, c__law_roll, c__law_scaled, m_Form⟩ (F.dfn X G 61 77 rfl rfl)
  have c__law_mixed : C8.Cal P w K mg base 2 "_law_mixed" (sp__law_mixed K) [] := cal__law_mixed T ⟨c__law_roll⟩ (F.dfn X G 35 51 rfl rfl)
  have c__law_pick : C8.Cal P w K mg base 2 "_law_pick" (sp__law_pick K) [] := cal__law_pick T ⟨c__law_roll⟩ (F.dfn X G 34 50 rfl rfl)
  have c__law_parted_form : C8.Cal P w K mg base 3 "_law_parted_form" (sp__law_parted_form K) [] := cal__law_parted_form T ⟨c__law_mixed, c__law_line, c__law_roll, c__law_pick, c__law_power, c__law_product⟩ (F.dfn X G 58 74 rfl rfl)
  have c__law_falls_right : C8.Cal P w K mg base 13 "_law_falls_right" (sp__law_falls_right K) [] := cal__law_falls_right T ⟨c__law_parted_form, c__law_table, c__law_changed, c_told_invariants, c__law_shared, m_Form⟩ (F.dfn X G 62 78 rfl rfl)
  have c_without_zeros : C8.Cal P w K mg base 1 "without_zeros" (sp_without_zeros K) [] := cal_without_zeros T (F.dfn X G 8 24 rfl rfl)
  have c_shared_of : C8.Cal P w K mg base 1 "shared_of" (sp_shared_of K) [] := cal_shared_of T (F.dfn X G 4 20 rfl rfl)
  have c_first_of : C8.Cal P w K mg base 1 "first_of" (sp_first_of K) [] := cal_first_of T TB (F.dfnC X G 5 21 rfl rfl)
  have c_primitive_of : C8.Cal P w K mg base 2 "primitive_of" (sp_primitive_of K) [] := cal_primitive_of T ⟨c_shared_of, c_first_of⟩ (F.dfn X G 6 22 rfl rfl)
  have c_ends_in : C8.Cal P w K mg base 2 "ends_in" (sp_ends_in K) [] := cal_ends_in T ⟨c_without_zeros⟩ (F.dfn X G 12 28 rfl rfl)
  have c_smaller : C8.Cal P w K mg base 2 "smaller" (sp_smaller K) [] := cal_smaller T ⟨c_shared_of⟩ (F.dfn X G 9 25 rfl rfl)
  have c_left_by : C8.Cal P w K mg base 3 "left_by" (sp_left_by K) [] := cal_left_by T ⟨c_without_zeros, c_smaller⟩ (F.dfn X G 10 26 rfl rfl)
  have c_common_of : C8.Cal P w K mg base 4 "common_of" (sp_common_of K) [] := cal_common_of T ⟨c_left_by, c_primitive_of⟩ (F.dfn X G 11 27 rfl rfl)
  have c_common_line : C8.Cal P w K mg base 5 "common_line" (sp_common_line K) [] := cal_common_line T ⟨c_without_zeros, c_primitive_of, c_ends_in, c_common_of⟩ (F.dfn X G 13 29 rfl rfl)
  have c_lessened_line : C8.Cal P w K mg base 6 "lessened_line" (sp_lessened_line K) [] := cal_lessened_line T ⟨c_common_line⟩ (F.dfn X G 14 30 rfl rfl)
  have c_most_times_in : C8.Cal P w K mg base 7 "most_times_in" (sp_most_times_in K) [] := cal_most_times_in T ⟨c_lessened_line⟩ (F.dfn X G 25 41 rfl rfl)
  have c_is_zero_in : C8.Cal P w K mg base 1 "is_zero_in" (sp_is_zero_in K) [] := cal_is_zero_in T (F.dfn X G 15 31 rfl rfl)
  obtain ⟨_, f_is_zero, _⟩ := F.d 68 (d := d_Form_is_zero) rfl
  have p_is_zero : Prp P w K mg base 2 "is_zero" (sp_Form_is_zero K) := pr_of k (ok_is_zero T ⟨c_is_zero_in⟩ k f_is_zero) (FunD.bindsN f_is_zero bw_Form_is_zero) F.pris_zero
  have c_fall_kind : C8.Cal P w K mg base 8 "fall_kind" (sp_fall_kind K) [] := cal_fall_kind T ⟨c_require_form, c_most_times_in, p_degree, p_is_zero, p_entries⟩ (F.dfn X G 26 42 rfl rfl)
  exact fn_law T ⟨c__law_dice, c__law_roll, c__law_right, c__law_falls_right, c__law_pick, c_told_invariants, c_fall_kind, m_Form⟩ FL
end K45
namespace K45
open PySem PySem.Spec PyProof.Rows L2
/-! ### the end: the law's call -/
/-- the script, and the table of first_of's code -/
def hp0 (a : Addr) (o : Obj) (ns : List Int) : Hp := fun b => if b = a then some (.frz o (.lst (ns.map V.int))) else if b = 203 then some (.tbl #[]) else none
theorem hp0_a {a : Addr} {o : Obj} {ns : List Int} : hp0 a o ns a = some (.frz o (.lst (ns.map V.int))) := if_pos rfl
theorem hp0_t {a : Addr} {o : Obj} {ns : List Int} (h : 203 ≠ a) : hp0 a o ns 203 = some (.tbl #[]) := (if_neg h).trans (if_pos rfl)
theorem hp0_n {a b : Addr} {o : Obj} {ns : List Int} (h1 : b ≠ a) (h2 : b ≠ 203) : hp0 a o ns b = none := (if_neg h1).trans (if_neg h2)
theorem cd_of {g : Addr → Option Obj} {h : Heap} (k : ∀ a o, g a = some o → h.get? a = some o) (c : cdOk g = true) : PySem.W.CodeHd h 207 203 := by
  unfold cdOk at c
  split at c
  · next o1 o2 vs o3 e =>
    split at c
    · next ev =>
      obtain ⟨l⟩ := vs
      dsimp only at ev
      subst ev
      have e2 := of_decide_eq_true c
      subst e2
      exact ⟨_, _, _, _, _, _, _, _, _, k _ _ e, rfl, rfl, rfl, rfl, rfl, rfl, rfl, rfl, by decide⟩
    · cases c
  · cases c
theorem tab_of {g : Addr → Option Obj} {h : Heap} (k : ∀ a o, g a = some o → h.get? a = some o) (c : tabOk g = true) : h.get? 203 = some { cls := .none, data := .fields #[] } := by
  unfold tabOk at c
  split at c
  · next vs sl e =>
    obtain ⟨c1, c2⟩ := Bool.and_eq_true_iff.mp c
    have e1 : vs = #[] := by simpa using c1
    have e2 : sl = #[] := by simpa using c2
    subst e1 e2
    exact k _ _ e
  · cases c
theorem law_end {P : Program} {w : World} {K : PySem.W.Frag} {mg mb : Str → Option Value} {s1 : Shared} {a : Addr} {vs : List Value} {ns : List Int}
    (F : Fx K) (X : K.In s1.heap) (tb : s1.heap.get? 203 = some { cls := .none, data := .fields #[] }) (cd : PySem.W.CodeHd s1.heap 207 203)
    (G : s1.heap.Ns mainGlobals mg) (B : s1.heap.Ns builtinsNs mb) (BB : ∀ x : Str, x ≠ "__name__" → mb x = bootBuiltins x) (lim : s1.heap.NoLimit) (hg : s1.gens = #[])
    (bm : ∃ (bm : Addr) (ob : Obj), mg "__builtins__" = some (.ref bm) ∧ bm ≠ builtinsNs ∧ s1.heap.get? bm = some ob ∧ ob.cls = .type "module" ∧ ob.dict = some builtinsNs ∧ ob.data = .plain)
    (ha : s1.heap.get? a = some { cls := .type "list", data := .seq vs.toArray }) (hi : IntsAre vs ns) (hl : ns.length ≤ sizeLine) :
    codeAny (model P w) callerA (.call (.ref 816) ⟨[.ref a], []⟩) (fun r s' => r = .ok (.ret (.bool true)) ∧ OldK s1.heap s'.heap ∧ s'.os = s1.os ∧ AllBare s'.gens) s1 := by
  obtain ⟨fd, FL, _⟩ := F.d 63 (d := d_law) rfl
  have rv := vals_ints hi
  have nat : 203 ≠ a := fun z => by
    rw [← z, tb] at ha
    exact Data.noConfusion (congrArg Obj.data (Option.some.inj ha))
  have nka : K.lookup a = none := by
    cases e : K.lookup a with
    | none => rfl
    | some o =>
      refine absurd ?_ (F.noL e)
      have := X a o e
      rw [ha] at this
      cases this; rfl
  have nkt : K.lookup 203 = none := by
    have := F.n2_
    cases e : K.lookup 203 with
    | none => rfl
    | some o => rw [e] at this; cases this
  generalize hH : hp0 a { cls := .type "list", data := .seq vs.toArray } ns = H
  have Ha : H a = some (.frz { cls := .type "list", data := .seq vs.toArray } (.lst (ns.map V.int))) := by rw [← hH]; exact hp0_a
  have Ht : H 203 = some (.tbl #[]) := by rw [← hH]; exact hp0_t nat
  have Hn : ∀ b, b ≠ a → b ≠ 203 → H b = none := fun b h1 h2 => by rw [← hH]; exact hp0_n h1 h2
  have hok : HOk P w H s1.heap := fun b u e => by
    by_cases h1 : b = a
    · subst h1
      rw [Ha] at e
      cases e
      exact ⟨ha, by rw [List.length_map]; exact hl, vs, _, rv, ha⟩
    · by_cases h2 : b = 203
      · subst h2
        rw [Ht] at e
        cases e
        exact tb
      · rw [Hn b h1 h2] at e
        cases e
  -- what is of another kind is not tracked
  have off : ∀ {b : Addr} {o : Obj}, s1.heap.get? b = some o → (∀ xs n, o.data ≠ .seq xs n) → o.data ≠ .fields #[] → H b = none := fun {b o} e h1 h2 => by
    refine Hn b (fun z => ?_) (fun z => ?_)
    · subst z
      rw [ha] at e
      cases e
      exact h1 _ _ rfl
    · subst z
      rw [tb] at e
      cases e
      exact h2 rfl
  have keep : ∀ {b : Addr} {o : Obj}, s1.heap.get? b = some o → H b = none → (hidT s1.heap H).get? b = some o := fun e n => hidT_get e n
  have nsk : ∀ {b : Addr} {m : Str → Option Value}, s1.heap.Ns b m → (hidT s1.heap H).Ns b m := fun {b m} ⟨o, es, ep, e, d, r⟩ =>
    ⟨o, es, ep, keep e (off e (fun xs n z => by rw [d] at z; cases z) fun z => by rw [d] at z; cases z), d, r⟩
  have kin : K.In (hidT s1.heap H) := fun b o e => keep (X b o e) (Hn b (fun z => by subst z; rw [nka] at e; cases e) fun z => by subst z; rw [nkt] at e; cases e)
  have M : L2.Mod K mg (hidT s1.heap H) := ⟨kin, nsk G, ⟨mb, nsk B, BB⟩, let ⟨m, l1, l2⟩ := lim; ⟨m, nsk l1, l2⟩⟩
  have gG : ∃ o es ep, s1.heap.get? mainGlobals = some o ∧ o.data = .dict es ep := let ⟨o, es, ep, e, d, _⟩ := G; ⟨o, es, ep, e, d⟩
  have TB : GxR.TabB (hidT s1.heap H) mg 207 203 := by
    refine ⟨?_, ?_, fun z => ?_⟩
    · obtain ⟨o, us, q1, q2, q3, q4, q5, q6, q7, e1, r1, r2, r3, r4⟩ := cd
      refine ⟨o, us, q1, q2, q3, q4, q5, q6, q7, keep e1 (off e1 (fun xs n z => ?_) fun z => ?_), r1, r2, r3, r4⟩
      · rw [r2] at z; cases z
      · rw [r2] at z; cases z; simp at r3
    · obtain ⟨m, ob, b1, b2, b3, b4, b5, b6⟩ := bm
      refine ⟨m, ob, b1, b2, fun z => ?_, fun z => ?_, keep b3 (off b3 (fun xs n z => ?_) fun z => ?_), b4, b5, b6⟩
      · obtain ⟨o, es, ep, e, d⟩ := gG
        rw [z, e] at b3; cases b3
        rw [d] at b6; cases b6
      · rw [z, tb] at b3; cases b3; cases b6
      · rw [b6] at z; cases z
      · rw [b6] at z; cases z
    · obtain ⟨o, es, ep, e, d⟩ := gG
      rw [z, tb] at e; cases e; cases d
  have e0 : Env0 P w K mg (hidT s1.heap H) callerA [] s1 H := ⟨rfl, M, fun b o e => of_hidT e, Nat.le_of_eq (hidT_size _ _), trivial, fun b hb => (List.not_mem_nil hb).elim, hok, .of_eq hg⟩
  have Fn := law_fn (P := P) (w := w) F kin (nsk G) TB FL
  have hb : BindsTo s1 fd ⟨[.ref a], []⟩ ((["_law_script"] : List Str).zip [.ref a]) := by
    have := FunD.bindsA (ps := ["_law_script"]) FL (fun kV doc pm an cdv ct us hl => match us, hl with | [_], _ => rfl) s1 [.ref a] rfl
    exact this
  refine codeAny_mono (Fn.2 callerA [] s1 H ⟨[.ref a], []⟩ [.ref a] [.ref a] (fun v _ => v = .bl true) (fun _ _ _ => False) rfl ⟨rfl, by decide, by decide⟩ e0 hb (.cons rfl .nil) ⟨a, ns, .ref a, rfl, ⟨a, _, rfl, Ha⟩, ⟨#[], Ht, trivial⟩, fun _ => rfl⟩) fun r s' h => ?_
  match r, h with
  | .error e, h => exact h.elim
  | .ok .next, h => exact h.elim
  | .ok .brk, h => exact h.elim
  | .ok .cont, h => exact h.elim
  | .ok (.ret u), h =>
    obtain ⟨v, H', os, bare, un, hok', ru, q⟩ := h
    have q : v = .bl true := q
    subst q
    have ru : u = Value.bool true := ru
    subst ru
    have frs0 : ∀ b : Addr, b ∉ frs [] := fun b z => List.not_mem_nil z
    have st : ∀ b o, b ≠ 203 → s1.heap.get? b = some o → s'.heap.get? b = some o := fun b o nb e => by
      by_cases h1 : b = a
      · subst h1
        obtain ⟨e2, _⟩ := hok' b _ (un.frzs b _ _ Ha)
        rw [ha] at e; cases e
        exact e2
      · exact un.keep b o e (Hn b h1 nb) (frs0 b) List.not_mem_nil
    obtain ⟨more, et⟩ := un.tbls 203 #[] Ht
    have et := hok' 203 _ et
    refine ⟨rfl, ⟨fun b o e => ?_, fun b o e => ?_⟩, os, bare⟩
    · by_cases h2 : b = 203
      · subst h2
        rw [tb] at e; cases e
        exact .inr (.inl ⟨(cd.tab tb).isCodeTable, rfl, #[], more, rfl, by rw [Array.empty_append] at et ⊢; exact et⟩)
      · exact .inl (st b o h2 e)
    · by_cases h2 : b = 203
      · subst h2; exact ⟨_, et⟩
      · exact ⟨o, st b o h2 e⟩
end K45
open PySem PySem.W PySem.Calls PyProof.Rows
theorem PySem.Challenge.cw_sourceforms_k45_whole_told_invariants_holds : PySem.Challenge.rw_sourceforms_k45_whole_told_invariants.Holds := by
  w_on; o_law
  refine HandSHeadRun.head_imp (r := OpenLaw.row PySem.Challenge.rw_sourceforms_k45_whole_told_invariants) (q := K45.qv) (H := K45.hkL) (ob := K45.obT) (M := 12000) (loose := K45.names) (d := HandSHeadRun.topDef (OpenLaw.row PySem.Challenge.rw_sourceforms_k45_whole_told_invariants).prog 96) (kwd := []) K45.obT_eq K45.runL
    (by kernel_rfl) (by kernel_rfl) (by kernel_rfl) (by rfl) (by first | assumption | decide +kernel) (by decide +kernel) ⟨rfl, rfl, rfl, rfl, rfl, by decide +kernel⟩ ?hw ?hc
  case hw => w_witness2
  case hc =>
    refine Att.attach_callB (l := PySem.Challenge.rw_sourceforms_k45_whole_told_invariants) (n := 63) rfl (by kernel_rfl) fun w s₀ s₁ mg mb fa o pm cd doc a vs ns G Y ho hd hcd hmg hobj hints hlen hbits hg => ?_
    obtain ⟨g, k, e⟩ := Y
    obtain ⟨F, t, c⟩ := K45.fx_of e
    have X : PySem.W.Frag.In (He.frG g K45.hds) s₁.heap := fun a o z => k a o (He.frG_at _ z)
    have en : (HandSHeadRun.topDef (OpenLaw.row PySem.Challenge.rw_sourceforms_k45_whole_told_invariants).prog 96).name = ("law" : PySem.Str) := by kernel_rfl
    have ef : fa = 816 := by
      have h1 := F.g X G.T.g 79 (x := "law") (o := some 816) rfl
      rw [← en, hmg] at h1
      have h2 : Value.ref fa = Value.ref 816 := Option.some.inj h1
      exact Value.ref.inj h2
    subst ef
    exact K45.law_end F X (K45.tab_of k t) (K45.cd_of k c) G.T.g G.T.b G.T.builtins G.T.nolimit hg G.T.bmain hobj hints (Nat.le_trans hlen (by decide))
