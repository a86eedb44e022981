import PyProof.Rows.All
import Wide.All
import OpenK.AllK
import Wide.FinOn
import HandS.ForMost
import HandS.Wide
import HandS.IsInst
import HandS.Defaults
import HandS.Style
import HandS.More
import HandS.Dict
import HandS.Iter
import HandS.ClsMeth
import HandS.Text
import HandS.Deep
import HandS.Strs
import HandS.Conv
import HandS.Exc
import HandS.StrMore
import KE.KDictZip
import KE.SortData
import HandS.DictTup
import PySem.Challenge.RW_widthwise_k54_whole_no_two_share_a_point
import Wide.Once
import HandS.Head0
import HandS.Head1
import HandS.Head2
import HandS.HeadEnd
import HandS.HeadHook1
import HandS.HeadHook2
import HandS.HeadHook3
import HandS.Ends
set_option Elab.async false
set_option linter.all false
set_option autoImplicit false
set_option maxRecDepth 100000
section
set_option maxRecDepth 100000
set_option maxHeartbeats 4000000
namespace Wd
open PySem PySem.Spec L2
def topS (i : Nat) : Stmt := PySem.Challenge.pw_widthwise_k54_whole_no_two_share_a_point.main.body.getD i (.Pass ⟨0, 0, 0, 0⟩)
def lettersS : Str := "abcdefghijklmnopqrstuvwxyz"
def signsS : Str := "abcdefghijklmnopqrstuvwxyz0123456789"
def keptL : List Str := ["box", "row", "column", "left", "amid", "right", "breaks"]
def figS : Str := "0123456789"
def leansL : List Str := ["left", "amid", "right"]
/-! ### the head -/
namespace Hd
open PySem PySem.Spec PyProof.Rows L2
def dG (i : Nat) (x : Str) (dfl : List He.Dv := []) : He.DefD := { at_ := (x, none), name := x, qual := x, params := defArgs (topS i), body := defBody (topS i), scope := defScope (topS i), dfl := dfl, kwd := [] }
def dM (x m q : Str) (i j : Nat) : He.DefD := { at_ := (x, some m), name := m, qual := q, params := defArgs (inClass (topS i) j), body := defBody (inClass (topS i) j), scope := defScope (inClass (topS i) j), dfl := [], kwd := [] }
def fn0 : List He.DefD := [dG 9 "common_divisor", dG 10 "is_whole", dG 11 "is_part", dG 12 "part_of" [.int 1], dG 13 "added", dG 14 "less", dG 15 "product", dG 16 "quotient", dG 17 "is_more", dG 18 "lesser", dG 19 "greater", dG 20 "is_figures", dG 22 "is_within", dG 23 "at_point", dG 24 "innermost", dG 25 "have_common", dG 26 "crossing", dG 27 "place_of", dG 39 "is_name", dG 40 "is_size", dG 41 "is_weight", dG 42 "are_sizes", dG 48 "need", dG 49 "made_of", dG 50 "box_of", dG 52 "goes_into", dG 53 "broken", dG 58 "is_number", dG 59 "is_item", dG 60 "need_items"]
def fn1 : List He.DefD := [dG 61 "width_at", dG 62 "total_of", dG 63 "bound_of", dG 64 "weight_of", dG 65 "ends_of", dG 66 "weight_beyond", dG 67 "far_share", dG 68 "share_of", dG 69 "shared", dG 73 "need_width", dG 74 "lines_in", dG 75 "line_widths", dG 76 "shifted", dG 77 "line_laid", dG 78 "placed", dG 79 "laid", dG 82 "size_text", dG 83 "row_of", dG 84 "rows_of", dG 85 "written", dG 86 "size_in", dG 87 "parts_of", dG 89 "read_box", dG 91 "_law_kept", dG 92 "_law_name", dG 93 "_law_names", dG 94 "_law_row", dG 95 "_law_size", dG 96 "_law_sizes", dG 97 "_law_made"]
def fn2 : List He.DefD := [dG 98 "_law_tree", dG 99 "_law_gcd", dG 100 "_law_part", dG 101 "_law_sum", dG 102 "_law_less", dG 103 "_law_width", dG 104 "_law_spot", dG 105 "_law_in", dG 106 "_law_parents", dG 107 "_law_right", dG 108 "_law_within", dG 109 "law", dM "Box" "__init__" "Box.__init__" 43 0, dM "Plain" "__init__" "Plain.__init__" 44 0, dM "Around" "__init__" "Around.__init__" 45 0, dM "Row" "__init__" "Row.__init__" 46 0, dM "Column" "__init__" "Around.__init__" 45 0, dM "Box" "name" "Box.name" 43 2, dM "Box" "sizes" "Box.sizes" 43 3, dM "Box" "kids" "Box.kids" 43 4, dM "Box" "names" "Box.names" 43 5, dM "Around" "gap" "Around.gap" 45 1, dM "Around" "lean" "Around.lean" 45 2, dM "Row" "breaks" "Row.breaks" 46 2, dM "Box" "breaks" "Box.breaks" 43 9, dM "Plain" "tall" "Plain.tall" 44 2, dM "Plain" "tree" "Plain.tree" 44 1, dM "Row" "tree" "Row.tree" 46 1, dM "Column" "tree" "Column.tree" 47 0, dM "Reader" "__init__" "Reader.__init__" 88 0]
def fn3 : List He.DefD := [dM "Reader" "tree" "Reader.tree" 88 1, dM "Reader" "is_kid" "Reader.is_kid" 88 2]
def fn : List He.DefD := fn0 ++ (fn1 ++ (fn2 ++ (fn3)))
def fa0 : List He.Fa := [.glo "common_divisor", .glo "is_whole", .glo "is_part", .glo "part_of", .glo "added", .glo "less", .glo "product", .glo "quotient", .glo "is_more", .glo "lesser", .glo "greater", .glo "is_figures", .glo "is_within", .glo "at_point", .glo "innermost", .glo "have_common", .glo "crossing", .glo "place_of", .glo "is_name", .glo "is_size", .glo "is_weight", .glo "are_sizes", .glo "need", .glo "made_of", .glo "box_of", .glo "goes_into", .glo "broken", .glo "is_number", .glo "is_item", .glo "need_items"]
def fa1 : List He.Fa := [.glo "width_at", .glo "total_of", .glo "bound_of", .glo "weight_of", .glo "ends_of", .glo "weight_beyond", .glo "far_share", .glo "share_of", .glo "shared", .glo "need_width", .glo "lines_in", .glo "line_widths", .glo "shifted", .glo "line_laid", .glo "placed", .glo "laid", .glo "size_text", .glo "row_of", .glo "rows_of", .glo "written", .glo "size_in", .glo "parts_of", .glo "read_box", .glo "_law_kept", .glo "_law_name", .glo "_law_names", .glo "_law_row", .glo "_law_size", .glo "_law_sizes", .glo "_law_made"]
def fa2 : List He.Fa := [.glo "_law_tree", .glo "_law_gcd", .glo "_law_part", .glo "_law_sum", .glo "_law_less", .glo "_law_width", .glo "_law_spot", .glo "_law_in", .glo "_law_parents", .glo "_law_right", .glo "_law_within", .glo "law", .glo "KEPT", .glo "LEANS_boxes", .glo "NOUGHT_sharing", .glo "NOUGHT_laying", .glo "LEANS_laying", .glo "Box", .glo "Plain", .glo "Around", .glo "Row", .glo "Column", .glo "Reader", .free "len", .free "range", .free "isinstance", .free "int", .free "str", .free "bool", .free "list"]
def fa3 : List He.Fa := [.free "tuple", .free "dict", .free "set", .free "abs", .free "max", .free "min", .free "sum", .free "all", .free "zip", .free "sorted", .free "enumerate", .int "MOST_SIGNS" 8, .int "MOST_SIZE_boxes" 1000, .int "MOST_WEIGHT_boxes" 20, .int "MOST_BOXES" 40, .int "MOST_WITHIN" 6, .int "MOST_KIDS" 12, .int "MOST_SIZE_sharing" 1000, .int "MOST_WEIGHT_sharing" 20, .int "MOST_DEEP" 7, .str "FIGURES" figS, .str "LETTERS" lettersS, .str "SIGNS" signsS, .cls "Plain", .cls "Row", .cls "Column", .cls "Reader", .noat "Plain" "called", .noat "Plain" "wished", .noat "Plain" "within"]
def fa4 : List He.Fa := [.noat "Plain" "high", .noat "Plain" "space", .noat "Plain" "side", .noat "Plain" "goes_on", .noat "Row" "called", .noat "Row" "wished", .noat "Row" "within", .noat "Row" "high", .noat "Row" "space", .noat "Row" "side", .noat "Row" "goes_on", .noat "Column" "called", .noat "Column" "wished", .noat "Column" "within", .noat "Column" "high", .noat "Column" "space", .noat "Column" "side", .noat "Column" "goes_on", .noat "Reader" "rest", .noat "Reader" "at", .meth "Plain" "name", .meth "Row" "name", .meth "Column" "name", .meth "Plain" "sizes", .meth "Row" "sizes", .meth "Column" "sizes", .meth "Plain" "kids", .meth "Row" "kids", .meth "Column" "kids", .meth "Plain" "names"]
def fa5 : List He.Fa := [.meth "Row" "names", .meth "Column" "names", .meth "Row" "gap", .meth "Column" "gap", .meth "Row" "lean", .meth "Column" "lean", .meth "Row" "breaks", .meth "Column" "breaks", .meth "Plain" "tall", .meth "Plain" "tree", .meth "Row" "tree", .meth "Column" "tree", .meth "Reader" "tree", .meth "Reader" "is_kid", .mkr "Plain", .mkr "Row", .mkr "Column", .mkr "Reader"]
def fa : List He.Fa := fa0 ++ (fa1 ++ (fa2 ++ (fa3 ++ (fa4 ++ (fa5)))))
def lo0 : List Str := ["WideError", "NoPart", "NoBox", "NoText", "NoItem", "NoName", "FIGURES", "common_divisor", "is_whole", "is_part", "part_of", "added", "less", "product", "quotient", "is_more", "lesser", "greater", "is_figures", "is_within", "at_point", "innermost", "have_common", "crossing", "place_of", "LETTERS", "SIGNS", "KEPT", "LEANS_boxes", "MOST_SIGNS"]
def lo1 : List Str := ["MOST_SIZE_boxes", "MOST_WEIGHT_boxes", "MOST_BOXES", "MOST_WITHIN", "MOST_KIDS", "is_name", "is_size", "is_weight", "are_sizes", "Box", "Plain", "Around", "Row", "Column", "need", "made_of", "box_of", "goes_into", "broken", "MOST_SIZE_sharing", "MOST_WEIGHT_sharing", "NOUGHT_sharing", "is_number", "is_item", "need_items", "width_at", "total_of", "bound_of", "weight_of", "ends_of"]
def lo2 : List Str := ["weight_beyond", "far_share", "share_of", "shared", "NOUGHT_laying", "LEANS_laying", "need_width", "lines_in", "line_widths", "shifted", "line_laid", "placed", "laid", "MOST_DEEP", "size_text", "row_of", "rows_of", "written", "size_in", "parts_of", "Reader", "read_box", "_law_kept", "_law_name", "_law_names", "_law_row", "_law_size", "_law_sizes", "_law_made", "_law_tree"]
def lo3 : List Str := ["_law_gcd", "_law_part", "_law_sum", "_law_less", "_law_width", "_law_spot", "_law_in", "_law_parents", "_law_right", "_law_within"]
def lo : List Str := lo0 ++ (lo1 ++ (lo2 ++ (lo3)))
/-- where the head is looked at -/
def ads0 : List Addr := [3, 94, 101, 108, 116, 123, 130, 137, 144, 151, 158, 165, 170, 177, 184, 191, 198, 205, 212, 213, 214, 219, 226, 233, 240, 327, 362, 395, 426, 443, 452, 457, 464, 471, 476]
def ads1 : List Addr := [477, 484, 491, 496, 503, 510, 517, 524, 529, 536, 543, 548, 553, 554, 555, 565, 570, 575, 580, 587, 594, 601, 608, 613, 620, 625, 632, 637, 668, 677, 684, 689, 696, 701, 708]
def ads2 : List Addr := [715, 720, 725, 732, 739, 746, 753, 760, 767, 774, 781, 786, 791, 796, 93, 100, 107, 115, 109, 122, 129, 136, 143, 150, 157, 164, 169, 176, 183, 190, 197, 204, 211, 218, 225]
def ads3 : List Addr := [232, 239, 326, 361, 394, 425, 442, 451, 456, 463, 470, 475, 483, 490, 495, 502, 509, 516, 523, 528, 535, 542, 547, 552, 556, 557, 558, 564, 569, 574, 579, 586, 593, 600, 607]
def ads4 : List Addr := [612, 619, 624, 631, 636, 667, 676, 683, 688, 695, 700, 707, 714, 719, 724, 731, 738, 745, 752, 759, 766, 773, 780, 785, 790, 795, 254, 268, 275, 282, 289, 317, 345, 352, 359]
def ads5 : List Addr := [378, 385, 392, 411, 416, 423, 440, 651, 658, 665, 253, 267, 274, 281, 288, 316, 344, 351, 358, 377, 384, 391, 410, 415, 422, 439, 650, 657, 664, 2]
def ads : List Addr := ads0 ++ (ads1 ++ (ads2 ++ (ads3 ++ (ads4 ++ (ads5)))))
abbrev Ask : Type := He.AlT × Bool
def asks (a : List He.Fa) (d : List He.DefD) (t : List He.Tab) (ex : PySem.W.Frag → Bool) (K : PySem.W.Frag) : Ask := (He.obsT a d t K, ex K)
/-- what the head is asked for -/
def asksG (a : List He.Fa) (d : List He.DefD) (t : List He.Tab) (ex : PySem.W.Frag → Bool) (g : Addr → Option Obj) : Ask := asks a d t ex (He.frG g ads)
structure Told (a : List He.Fa) (d : List He.DefD) (t : List He.Tab) (ex : PySem.W.Frag → Bool) (w : World) (K : PySem.W.Frag) : Prop where
  tab : He.SaysT a d t w K
  ex : ex K = true
def hookW (a : List He.Fa) (d : List He.DefD) (t : List He.Tab) (ex : PySem.W.Frag → Bool) : PySem.W.Hook where
  α := Ask
  obs s := asksG a d t ex s.heap.get?
  val w := (He.valT d t w, true)
  says w h := ∃ K : PySem.W.Frag, K.In h ∧ Told a d t ex w K
  of _ s e := ⟨He.frG s.heap.get? ads, He.frG_in, ⟨congrArg Prod.fst e, congrArg Prod.snd e⟩⟩
  keeps _ _ _ := fun ⟨K, i, t⟩ k => ⟨K, i.keeps k, t⟩
def tabs : List He.Tab := [(fun K => He.ga K "LEANS_laying", ["left", "amid", "right"])]
/-- what the key stands for in the table of leans -/
def leanA (K : PySem.W.Frag) (k : Str) : Addr := match PySem.W.nsIn K (He.ga K "LEANS_laying") k with
  | some (some (.ref a)) => a
  | _ => 0
/-- a pair of numbers stands there -/
def pairAt (K : PySem.W.Frag) (a : Addr) (i j : Int) : Bool := match K.lookup a with
  | some ⟨c, _, .seq its _, _⟩ => decide (c = .type "tuple") && (decide (its.size ≤ 2) && He.relAll [.int i, .int j] its.toList)
  | _ => false
def leanB (K : PySem.W.Frag) (k : Str) (i j : Int) : Bool := He.eqO (PySem.W.nsIn K (He.ga K "LEANS_laying") k) (some (some (.ref (leanA K k)))) && pairAt K (leanA K k) i j
def clsB (K : PySem.W.Frag) (x : Str) : Bool := He.eqO (PySem.W.findIn K (.ref (He.ga K x)) "__class__") (some (some (.builtin "object.__class__"))) && decide (PySem.W.mroIn K (He.ga K x) (.type "object") = some true)
def getB (K : PySem.W.Frag) : Bool := He.eqO (PySem.W.specialIn K (.builtin "object.__class__") "__get__") (some (some (.builtin "getset_descriptor.__get__"))) && decide (PySem.W.takesIn K (.builtin "object.__class__") = some true)
def sameB (K : PySem.W.Frag) (x m y : Str) : Bool := decide (He.ma K (He.ga K x) m = He.ma K (He.ga K y) m)
def oneB (K : PySem.W.Frag) (x y : Str) (b : Bool) : Bool := decide (PySem.W.kitOne K (.ref (He.ga K x)) (.ref (He.ga K y)) = some b)
def iniB (K : PySem.W.Frag) (x : Str) : Bool := PySem.W.readsIn K (He.ga K x) (.type "type") && (He.eqO (PySem.W.specialIn K (.ref (He.ga K x)) "__getattribute__") (some (some (.builtin "type.__getattribute__"))) && (match PySem.W.findCls K (.ref (He.ga K x)) (.type "type") "__init__" with
  | some (.val (.ref f)) => decide (f = He.ma K (He.ga K x) "__init__")
  | _ => false))
def exl (K : PySem.W.Frag) : List Bool := [getB K, clsB K "Plain", clsB K "Row", clsB K "Column", clsB K "Reader",
  sameB K "Plain" "name" "Box", sameB K "Row" "name" "Box", sameB K "Column" "name" "Box", sameB K "Plain" "sizes" "Box", sameB K "Row" "sizes" "Box", sameB K "Column" "sizes" "Box", sameB K "Plain" "kids" "Box", sameB K "Row" "kids" "Box", sameB K "Column" "kids" "Box", sameB K "Plain" "names" "Box", sameB K "Row" "names" "Box", sameB K "Column" "names" "Box",
  sameB K "Row" "gap" "Around", sameB K "Column" "gap" "Around", sameB K "Row" "lean" "Around", sameB K "Column" "lean" "Around", sameB K "Column" "breaks" "Box",
  oneB K "Plain" "Row" false, oneB K "Row" "Row" true, oneB K "Column" "Row" false, oneB K "Plain" "Column" false, oneB K "Column" "Column" true,
  iniB K "Box", iniB K "Around",
  He.lstB K "KEPT" (keptL.map He.Dv.str), He.lstB K "LEANS_boxes" (leansL.map He.Dv.str), He.tupB K "NOUGHT_sharing" [.int 0, .int 1], He.tupB K "NOUGHT_laying" [.int 0, .int 1],
  leanB K "left" 0 1, leanB K "amid" 1 2, leanB K "right" 1 1]
def exs (K : PySem.W.Frag) : Bool := (exl K).all id
abbrev R : PySem.W.OpenRow := PySem.W.OpenLaw.row PySem.Challenge.rw_widthwise_k54_whole_no_two_share_a_point
abbrev hk : PySem.W.Hook := hookW fa fn tabs exs
def ob (s : PySem.W.SharedT) : Ask := asksG fa fn tabs exs (HandSHeadRun.getT s)
theorem ob_eq (s : PySem.W.SharedT) : ob s = hk.obs s.abs := congrArg (asksG fa fn tabs exs) (funext (HandSHeadRun.getT_eq s))
theorem runF (w : World) : HandSHeadRun.RunEq R (PySem.W.view R.prog [109]) hk ob 8000 lo (w.withFollow "special-get-raises" false) := by
  intro os
  kernel_rfl
theorem runT (w : World) : HandSHeadRun.RunEq R (PySem.W.view R.prog [109]) hk ob 8000 lo (w.withFollow "special-get-raises" true) := by
  intro os
  kernel_rfl
theorem run (w : World) : HandSHeadRun.RunEq R (PySem.W.view R.prog [109]) hk ob 8000 lo w := PySem.W.byRow2 "special-get-raises" (P := fun w => HandSHeadRun.RunEq R (PySem.W.view R.prog [109]) hk ob 8000 lo w) runF runT w
end Hd
end Wd
end

section
set_option maxRecDepth 100000
set_option maxHeartbeats 4000000
/-! A logic of data over the hand layer: what slots hold is told by predicates; owned lists and dicts apart. -/
namespace Wd
open PySem PySem.Spec L2

/-- what the module's top has left -/
structure Uni where
  P : Program
  w : World
  K : PySem.W.Frag
  mg : Str → Option Value
  base : Heap

/-- a predicate on values over the part of the heap that no longer changes -/
structure Pr where
  p : Hp → V → Prop
  mono : ∀ {S S' : Hp} {v : V}, Same S S' → p S v → p S' v
/-- one on what an owned object holds -/
structure Ct where
  c : Hp → HO → Prop
  mono : ∀ {S S' : Hp} {o : HO}, Same S S' → c S o → c S' o
  nt : ∀ {S : Hp} {o : HO}, c S o → ∀ vs, o ≠ .tup vs
/-- there is something, no tuple -/
def Live (o : Option HO) : Prop := o ≠ none ∧ ∀ vs, o ≠ some (.tup vs)
theorem live_of {o : HO} (h : ∀ vs, o ≠ .tup vs) : Live (some o) := ⟨(fun z => nomatch z), fun vs z => h vs (Option.some.inj z)⟩
inductive Ty where
  | any
  | val (P : Pr)
  | own (loc : Bool) (C : Ct)

/-- the heap without the owned objects -/
def hid (own : List Addr) (H : Hp) : Hp := fun a => if a ∈ own then none else H a
theorem hid_in {own : List Addr} {H : Hp} {a : Addr} (h : a ∈ own) : hid own H a = none := if_pos h
theorem hid_out {own : List Addr} {H : Hp} {a : Addr} (h : a ∉ own) : hid own H a = H a := if_neg h
theorem hid_some {own : List Addr} {H : Hp} {a : Addr} {o : HO} (h : hid own H a = some o) : a ∉ own ∧ H a = some o := by
  by_cases q : a ∈ own
  · rw [hid_in q] at h; cases h
  · exact ⟨q, by rw [hid_out q] at h; exact h⟩
theorem hid_mono {own own' : List Addr} {H H' : Hp} (hs : ∀ a ∈ own', a ∈ own) (s : Same H H') : Same (hid own H) (hid own' H') := fun a o h => by
  obtain ⟨h1, h2⟩ := hid_some h
  rw [hid_out (fun z => h1 (hs a z))]
  exact s a o h2
theorem hid_grow {own : List Addr} {H H' : Hp} (s : Same H H') : Same (hid own H) (hid own H') := hid_mono (fun _ h => h) s
theorem hid_sub {own : List Addr} {H : Hp} : Same (hid own H) H := fun _ _ h => (hid_some h).2
theorem same_new {H : Hp} {p : Addr} {o : HO} (h : H p = none) : Same H (upd H p o) := fun b u e => by
  rw [upd_ne (ne_of_none e h)]; exact e

/-- how a call stands: the heap at its start, the addresses owned by others, those of them that it may change; G: what is known to stand still -/
structure Zn where
  H0 : Hp
  O : List Addr
  M : List Addr
  G : Hp := fun _ => none
def Ty.at_ (Z : Zn) (own : List Addr) (H : Hp) : Ty → Option V → Prop
  | .any, _ => True
  | .val P, ov => ∃ v, ov = some v ∧ P.p (hid own H) v
  | .own b C, ov => ∃ p o, ov = some (.ref p) ∧ p ∈ own ∧ (b = true → Z.H0 p = none) ∧ (b = false → p ∈ Z.M) ∧ H p = some o ∧ C.c (hid own H) o
structure StO (Z : Zn) (own : List Addr) (Γ : List Ty) (σ : St) (H : Hp) : Prop where
  dom : ∀ a ∈ own, Live (H a)
  old : ∀ a ∈ Z.O, a ∈ own
  new : ∀ a ∈ own, a ∈ Z.O ∨ Z.H0 a = none
  keep : ∀ a o, Z.H0 a = some o → a ∉ Z.M → H a = some o
  at_ : ∀ (i : Nat) (T : Ty), Γ[i]? = some T → T.at_ Z own H (σ.getD i none)
  uniq : ∀ (i j : Nat) (b b' : Bool) (C C' : Ct) (p : Addr), Γ[i]? = some (Ty.own b C) → Γ[j]? = some (Ty.own b' C') → σ.getD i none = some (V.ref p) → σ.getD j none = some (V.ref p) → i = j
  len : Γ.length = σ.length
  gh : Same Z.G (hid own H)
  mo : ∀ a ∈ Z.M, a ∈ Z.O
  dO : ∀ a ∈ Z.O, Z.H0 a ≠ none

theorem Ty.at_.grow {Z : Zn} {own : List Addr} {H H' : Hp} {T : Ty} {ov : Option V} (s : Same H H') (h : T.at_ Z own H ov) : T.at_ Z own H' ov := by
  cases T with
  | any => trivial
  | val P => obtain ⟨v, e, q⟩ := h; exact ⟨v, e, P.mono (hid_grow s) q⟩
  | own b C => obtain ⟨p, o, e, h1, h2, h2', h3, h4⟩ := h; exact ⟨p, o, e, h1, h2, h2', s p o h3, C.mono (hid_grow s) h4⟩
section
variable {Z : Zn} {own : List Addr} {Γ : List Ty} {σ : St} {H H' : Hp}
theorem StO.dom' (g : StO Z own Γ σ H) : ∀ a ∈ own, H a ≠ none := fun a ha => (g.dom a ha).1
theorem StO.grow (g : StO Z own Γ σ H) (s : Same H H') : StO Z own Γ σ H' where
  dom := fun a ha => by
    cases e : H a with
    | none => exact absurd e (g.dom a ha).1
    | some o => rw [s a o e]; rw [← e]; exact g.dom a ha
  old := g.old
  new := g.new
  keep := fun a o h1 h2 => s a o (g.keep a o h1 h2)
  at_ := fun i T h => (g.at_ i T h).grow s
  uniq := g.uniq
  len := g.len
  gh := g.gh.trans (hid_grow s)
  mo := g.mo
  dO := g.dO
theorem getD_of {α : Type} {l : List (Option α)} {i : Nat} {v : α} (h : l.getD i none = some v) : l[i]? = some (some v) := by
  rw [List.getD_eq_getElem?_getD] at h
  cases e : l[i]? with
  | none => rw [e] at h; cases h
  | some o => rw [e] at h; exact congrArg some h
theorem StO.val (g : StO Z own Γ σ H) {i : Nat} {P : Pr} (h : Γ[i]? = some (.val P)) : ∃ v, σ[i]? = some (some v) ∧ P.p (hid own H) v := by
  obtain ⟨v, e, q⟩ := g.at_ i _ h
  exact ⟨v, getD_of e, q⟩
theorem getD_set {α : Type} {l : List (Option α)} {i j : Nat} {x : Option α} : (l.set i x).getD j none = if i = j ∧ j < l.length then x else l.getD j none := by
  rw [List.getD_eq_getElem?_getD, List.getElem?_set, List.getD_eq_getElem?_getD]
  by_cases h : i = j
  · subst h
    by_cases q : i < l.length
    · rw [if_pos rfl, if_pos q, if_pos ⟨rfl, q⟩]; rfl
    · rw [if_pos rfl, if_neg q, if_neg (fun z => q z.2), List.getElem?_eq_none (Nat.le_of_not_lt q)]
  · rw [if_neg h, if_neg (fun z => h z.1)]
theorem getE_set {α : Type} {l : List α} {i j : Nat} {x y : α} (h : (l.set i x)[j]? = some y) : (i = j ∧ x = y) ∨ (i ≠ j ∧ l[j]? = some y) := by
  rw [List.getElem?_set] at h
  by_cases q : i = j
  · rw [if_pos q] at h
    split at h
    · exact .inl ⟨q, Option.some.inj h⟩
    · cases h
  · rw [if_neg q] at h; exact .inr ⟨q, h⟩
/-- a slot is set to a value -/
theorem StO.set (g : StO Z own Γ σ H) {i : Nat} {P : Pr} {v : V} (hi : i < Γ.length) (h : P.p (hid own H) v) : StO Z own (Γ.set i (.val P)) (σ.set i (some v)) H where
  dom := g.dom
  old := g.old
  new := g.new
  keep := g.keep
  at_ := fun j T hj => by
    rw [getD_set]
    rcases getE_set hj with ⟨e, q⟩ | ⟨e, q⟩
    · subst q
      subst e
      rw [if_pos ⟨rfl, by rw [← g.len]; exact hi⟩]
      exact ⟨v, rfl, h⟩
    · rw [if_neg (fun z => e z.1)]
      exact g.at_ j T q
  uniq := fun a b l l' C C' p ha hb e1 e2 => by
    rcases getE_set ha with ⟨_, q⟩ | ⟨na, q⟩
    · cases q
    · rcases getE_set hb with ⟨_, q'⟩ | ⟨nb, q'⟩
      · cases q'
      · rw [getD_set, if_neg (fun z => na z.1)] at e1
        rw [getD_set, if_neg (fun z => nb z.1)] at e2
        exact g.uniq a b l l' C C' p q q' e1 e2
  len := by rw [List.length_set, List.length_set]; exact g.len
  gh := g.gh
  mo := g.mo
  dO := g.dO
/-- what a context asks may be weakened -/
inductive Ty.Le : Ty → Ty → Prop
  | refl (T : Ty) : Ty.Le T T
  | any (T : Ty) : Ty.Le T .any
  | val {P P' : Pr} (h : ∀ S v, P.p S v → P'.p S v) : Ty.Le (.val P) (.val P')
  | own {b : Bool} {C C' : Ct} (h : ∀ S v, C.c S v → C'.c S v) : Ty.Le (.own b C) (.own b C')
theorem Ty.Le.eq {T T' : Ty} (h : T = T') : Ty.Le T T' := h ▸ .refl T
inductive Sub : List Ty → List Ty → Prop
  | nil : Sub [] []
  | cons {T T' : Ty} {Γ Γ' : List Ty} : Ty.Le T T' → Sub Γ Γ' → Sub (T :: Γ) (T' :: Γ')
theorem Sub.refl : ∀ Γ : List Ty, Sub Γ Γ
  | [] => .nil
  | T :: Γ => .cons (.refl T) (Sub.refl Γ)
theorem Sub.get : ∀ {Γ Γ' : List Ty} {i : Nat} {T' : Ty}, Sub Γ Γ' → Γ'[i]? = some T' → ∃ T, Γ[i]? = some T ∧ T.Le T'
  | _, _, _, _, .nil, h => by simp at h
  | _, _, 0, _, .cons l _, h => by simp at h; subst h; exact ⟨_, rfl, l⟩
  | _, _, i + 1, _, .cons _ s, h => by
    obtain ⟨T, h1, h2⟩ := Sub.get (i := i) s (by simpa using h)
    exact ⟨T, by simpa using h1, h2⟩
theorem Sub.length : ∀ {Γ Γ' : List Ty}, Sub Γ Γ' → Γ.length = Γ'.length
  | _, _, .nil => rfl
  | _, _, .cons _ s => by rw [List.length_cons, List.length_cons, Sub.length s]
theorem StO.sub {Γ' : List Ty} (g : StO Z own Γ σ H) (s : Sub Γ Γ') : StO Z own Γ' σ H where
  dom := g.dom
  old := g.old
  new := g.new
  keep := g.keep
  at_ := fun i T' h => by
    obtain ⟨T, h1, l⟩ := s.get h
    have q := g.at_ i T h1
    cases l with
    | refl => exact q
    | any => trivial
    | val hp => obtain ⟨v, e, q⟩ := q; exact ⟨v, e, hp _ _ q⟩
    | own hc => obtain ⟨p, o, e, h1, h2, h2', h3, h4⟩ := q; exact ⟨p, o, e, h1, h2, h2', h3, hc _ _ h4⟩
  uniq := fun i j b b' C C' p h1 h2 e1 e2 => by
    obtain ⟨T1, q1, l1⟩ := s.get h1
    obtain ⟨T2, q2, l2⟩ := s.get h2
    cases l1 <;> cases l2 <;> exact g.uniq i j _ _ _ _ p q1 q2 e1 e2
  len := s.length.symm.trans g.len
  gh := g.gh
  mo := g.mo
  dO := g.dO
/-- less is known to stand still -/
theorem StO.less (g : StO Z own Γ σ H) {G : Hp} (h : Same G Z.G) : StO { Z with G := G } own Γ σ H := ⟨g.dom, g.old, g.new, g.keep, g.at_, g.uniq, g.len, h.trans g.gh, g.mo, g.dO⟩
/-- all that stands still now -/
theorem StO.more (g : StO Z own Γ σ H) : StO { Z with G := hid own H } own Γ σ H := ⟨g.dom, g.old, g.new, g.keep, g.at_, g.uniq, g.len, .refl _, g.mo, g.dO⟩
theorem StO.fresh (g : StO Z own Γ σ H) {p : Addr} (h : H p = none) : Z.H0 p = none := by
  cases e : Z.H0 p with
  | none => rfl
  | some o =>
    by_cases q : p ∈ Z.M
    · exact absurd h (g.dom p (g.old p (g.mo p q))).1
    · rw [g.keep p o e q] at h; cases h
theorem hid_new {own : List Addr} {H H' : Hp} {p : Addr} (h : H p = none) (s : Same H H') : Same (hid own H) (hid (p :: own) H') := fun a u e => by
  obtain ⟨h1, h2⟩ := hid_some e
  rw [hid_out (fun z => (List.mem_cons.mp z).elim (ne_of_none h2 h) h1)]
  exact s a u h2
theorem hid_upd {own : List Addr} {H : Hp} {p : Addr} {o : HO} (h : p ∈ own) : hid own (upd H p o) = hid own H := by
  funext a
  by_cases q : a ∈ own
  · rw [hid_in q, hid_in q]
  · rw [hid_out q, hid_out q, upd_ne (fun z => q (by rw [z]; exact h))]
/-- one more owned object -/
theorem StO.owned (g : StO Z own Γ σ H) {p : Addr} {o : HO} (h : H p = none) (s : Same H H') (hp : H' p = some o) (nt : ∀ vs, o ≠ .tup vs) : StO Z (p :: own) Γ σ H' := by
  have hm : Same (hid own H) (hid (p :: own) H') := hid_new h s
  refine ⟨fun a ha => ?_, fun a ha => List.mem_cons_of_mem _ (g.old a ha), fun a ha => ?_, fun a u h1 h2 => s a u (g.keep a u h1 h2), fun i T e => ?_, g.uniq, g.len, g.gh.trans hm, g.mo, g.dO⟩
  · rcases List.mem_cons.mp ha with rfl | ha
    · rw [hp]; exact live_of nt
    · exact (g.grow s).dom a ha
  · rcases List.mem_cons.mp ha with rfl | ha
    · exact .inr (g.fresh h)
    · exact g.new a ha
  · have q := g.at_ i T e
    cases T with
    | any => trivial
    | val P => obtain ⟨v, e, q⟩ := q; exact ⟨v, e, P.mono hm q⟩
    | own b C => obtain ⟨p', o', e, h1, h2, h2', h3, h4⟩ := q; exact ⟨p', o', e, List.mem_cons_of_mem _ h1, h2, h2', s _ _ h3, C.mono hm h4⟩
/-- an owned object is written that no slot tells of -/
theorem StO.writeX (g : StO Z own Γ σ H) {p : Addr} {o : HO} (nt : ∀ vs, o ≠ .tup vs) (h : p ∈ own) (hp : Z.H0 p = none) (hn : ∀ i b C, Γ[i]? = some (.own b C) → σ.getD i none ≠ some (.ref p)) : StO Z own Γ σ (upd H p o) := by
  have hh : hid own (upd H p o) = hid own H := hid_upd h
  refine ⟨fun a ha => ?_, g.old, g.new, fun a u h1 h2 => ?_, fun i T e => ?_, g.uniq, g.len, by rw [hh]; exact g.gh, g.mo, g.dO⟩
  · by_cases q : a = p
    · rw [q, upd_same]; exact live_of nt
    · rw [upd_ne q]; exact g.dom a ha
  · rw [upd_ne (fun z => by rw [z, hp] at h1; cases h1)]; exact g.keep a u h1 h2
  · have q := g.at_ i T e
    cases T with
    | any => trivial
    | val P => obtain ⟨v, e, q⟩ := q; exact ⟨v, e, by rw [hh]; exact q⟩
    | own b C =>
      obtain ⟨p', o', e1, h1, h2, h2', h3, h4⟩ := q
      refine ⟨p', o', e1, h1, h2, h2', ?_, by rw [hh]; exact h4⟩
      rw [upd_ne (fun z => hn i b C e (by rw [e1, z]))]
      exact h3
theorem StO.slot (g : StO Z own Γ σ H) {i : Nat} {l : Bool} {C : Ct} (h : Γ[i]? = some (.own l C)) : ∃ p o, σ[i]? = some (some (.ref p)) ∧ p ∈ own ∧ H p = some o ∧ C.c (hid own H) o := by
  obtain ⟨p, o, e, h1, _, _, h3, h4⟩ := g.at_ i _ h
  exact ⟨p, o, getD_of e, h1, h3, h4⟩
theorem getD_in {α : Type} {l : List (Option α)} {i : Nat} {v : α} (h : l[i]? = some (some v)) : l.getD i none = some v := by
  rw [List.getD_eq_getElem?_getD, h]; rfl
/-- the owned object of a slot is written -/
theorem StO.write (g : StO Z own Γ σ H) {i : Nat} {p : Addr} {o : HO} {l : Bool} {C C' : Ct} (hi : Γ[i]? = some (.own l C)) (hp : σ[i]? = some (some (.ref p))) (hc : C'.c (hid own H) o) : StO Z own (Γ.set i (.own l C')) σ (upd H p o) := by
  have hp := getD_in hp
  obtain ⟨p', o', e1, h1, h2, h2', h3, h4⟩ := g.at_ i _ hi
  rw [hp] at e1
  obtain rfl : p = p' := by injection e1 with e; injection e
  have hh : hid own (upd H p o) = hid own H := hid_upd h1
  refine ⟨fun a ha => ?_, g.old, g.new, fun a u k1 k2 => ?_, fun j T e => ?_, fun a b la lb A B q ha hb x1 x2 => ?_, by rw [List.length_set]; exact g.len, by rw [hh]; exact g.gh, g.mo, g.dO⟩
  · by_cases q : a = p
    · rw [q, upd_same]; exact live_of (C'.nt hc)
    · rw [upd_ne q]; exact g.dom a ha
  · rw [upd_ne (fun z => by
      subst z
      cases l with
      | true => rw [h2 rfl] at k1; cases k1
      | false => exact k2 (h2' rfl))]
    exact g.keep a u k1 k2
  · rcases getE_set e with ⟨ej, eT⟩ | ⟨ej, eT⟩
    · subst eT; subst ej
      exact ⟨p, o, hp, h1, h2, h2', upd_same, by rw [hh]; exact hc⟩
    · have q := g.at_ j T eT
      cases T with
      | any => trivial
      | val P => obtain ⟨v, e, q⟩ := q; exact ⟨v, e, by rw [hh]; exact q⟩
      | own lb B =>
        obtain ⟨p', o', f1, k1, k2, k2', k3, k4⟩ := q
        refine ⟨p', o', f1, k1, k2, k2', ?_, by rw [hh]; exact k4⟩
        rw [upd_ne (fun z => ej (g.uniq i j l lb C B p hi eT hp (by rw [f1, z])))]
        exact k3
  · have A' : ∃ l0 A0, Γ[a]? = some (.own l0 A0) := by
      rcases getE_set ha with ⟨ej, _⟩ | ⟨_, eT⟩
      · exact ⟨l, C, by rw [← ej]; exact hi⟩
      · exact ⟨la, A, eT⟩
    have B' : ∃ l0 B0, Γ[b]? = some (.own l0 B0) := by
      rcases getE_set hb with ⟨ej, _⟩ | ⟨_, eT⟩
      · exact ⟨l, C, by rw [← ej]; exact hi⟩
      · exact ⟨lb, B, eT⟩
    obtain ⟨_, A0, hA⟩ := A'
    obtain ⟨_, B0, hB⟩ := B'
    exact g.uniq a b _ _ A0 B0 q hA hB x1 x2
/-- a slot is set to a new owned object -/
theorem StO.setN (g : StO Z own Γ σ H) {i : Nat} {p : Addr} {o : HO} {C : Ct} (hi : i < Γ.length) (hp : H p = none) (s : Same H H') (h : H' p = some o) (hc : C.c (hid (p :: own) H') o) : StO Z (p :: own) (Γ.set i (.own true C)) (σ.set i (some (.ref p))) H' := by
  have g' := g.owned hp s h (C.nt hc)
  have nop : ∀ (j : Nat) (l : Bool) (B : Ct), Γ[j]? = some (.own l B) → σ.getD j none ≠ some (.ref p) := fun j l B e z => by
    obtain ⟨q', u', f1, k1, _⟩ := g.at_ j _ e
    rw [z] at f1
    cases f1
    exact (g.dom p k1).1 hp
  refine ⟨g'.dom, g'.old, g'.new, g'.keep, fun j T e => ?_, fun a b la lb A B q ha hb x1 x2 => ?_, by rw [List.length_set, List.length_set]; exact g.len, g'.gh, g.mo, g.dO⟩
  · rw [getD_set]
    rcases getE_set e with ⟨ej, eT⟩ | ⟨ej, eT⟩
    · subst eT; subst ej
      rw [if_pos ⟨rfl, by rw [← g.len]; exact hi⟩]
      exact ⟨p, o, rfl, List.mem_cons_self, fun _ => g.fresh hp, fun z => (nomatch z), h, hc⟩
    · rw [if_neg (fun z => ej z.1)]
      exact g'.at_ j T eT
  · rw [getD_set] at x1 x2
    rcases getE_set ha with ⟨ea, _⟩ | ⟨ea, ta⟩
    · rcases getE_set hb with ⟨eb, _⟩ | ⟨eb, tb⟩
      · exact ea.symm.trans eb
      · subst ea
        rw [if_pos ⟨rfl, by rw [← g.len]; exact hi⟩] at x1
        rw [if_neg (fun z => eb z.1)] at x2
        cases x1
        exact absurd x2 (nop b lb B tb)
    · rcases getE_set hb with ⟨eb, _⟩ | ⟨eb, tb⟩
      · subst eb
        rw [if_pos ⟨rfl, by rw [← g.len]; exact hi⟩] at x2
        rw [if_neg (fun z => ea z.1)] at x1
        cases x2
        exact absurd x1 (nop a la A ta)
      · rw [if_neg (fun z => ea z.1)] at x1
        rw [if_neg (fun z => eb z.1)] at x2
        exact g.uniq a b la lb A B q ta tb x1 x2
/-- an owned object of one's own becomes a value -/
theorem StO.frozen (g : StO Z own Γ σ H) {i : Nat} {C : Ct} {P : Pr} (hi : Γ[i]? = some (.own true C)) (hp : ∀ S p o, S p = some o → C.c S o → P.p S (.ref p)) : ∃ own', StO Z own' (Γ.set i (.val P)) σ H ∧ ∀ a ∈ own', a ∈ own := by
  obtain ⟨p, o, e1, h1, h2, h2', h3, h4⟩ := g.at_ i _ hi
  refine ⟨own.filter fun a => decide (a ≠ p), ?_, fun a ha => (List.mem_filter.mp ha).1⟩
  have hn : p ∉ own.filter fun a => decide (a ≠ p) := fun z => (of_decide_eq_true (List.mem_filter.mp z).2) rfl
  have hm : Same (hid own H) (hid (own.filter fun a => decide (a ≠ p)) H) := hid_mono (fun a ha => (List.mem_filter.mp ha).1) (.refl H)
  refine ⟨fun a ha => g.dom a (List.mem_filter.mp ha).1, fun a ha => List.mem_filter.mpr ⟨g.old a ha, decide_eq_true fun z => by subst z; exact g.dO a ha (h2 rfl)⟩, fun a ha => g.new a (List.mem_filter.mp ha).1, g.keep, fun j T e => ?_, fun a b la lb A B q ha hb x1 x2 => ?_, by rw [List.length_set]; exact g.len, g.gh.trans hm, g.mo, g.dO⟩
  · rcases getE_set e with ⟨ej, eT⟩ | ⟨ej, eT⟩
    · subst eT; subst ej
      exact ⟨.ref p, e1, hp _ p o ((hid_out hn).trans h3) (C.mono hm h4)⟩
    · have q := g.at_ j T eT
      cases T with
      | any => trivial
      | val P => obtain ⟨v, e, q⟩ := q; exact ⟨v, e, P.mono hm q⟩
      | own lb B =>
        obtain ⟨p', o', f1, k1, k2, k2', k3, k4⟩ := q
        exact ⟨p', o', f1, List.mem_filter.mpr ⟨k1, decide_eq_true fun z => ej (g.uniq i j _ _ C B p hi eT e1 (by rw [f1, z]))⟩, k2, k2', k3, B.mono hm k4⟩
  · rcases getE_set ha with ⟨_, z⟩ | ⟨_, ta⟩
    · cases z
    · rcases getE_set hb with ⟨_, z⟩ | ⟨_, tb⟩
      · cases z
      · exact g.uniq a b la lb A B q ta tb x1 x2
end

/-! ### the context of a body -/
def uniOf (X : Cx) : Uni := ⟨X.prog, X.w, X.K, X.mg, X.base⟩
structure Good (u : Uni) (N : List Str) (sc : Scope) (k : Nat) (X : Cx) : Prop where
  eu : u = uniOf X
  eN : N = X.N
  es : sc = X.env.scope
  calm : X.calm = true
  room : Room k X.A
  xe : X.xe = fun _ _ => False
  nd : N.Nodup
theorem Good.mono {u : Uni} {N : List Str} {sc : Scope} {j k : Nat} {X : Cx} (g : Good u N sc k X) (h : j ≤ k) : Good u N sc j X :=
  ⟨g.eu, g.eN, g.es, g.calm, g.room.mono h, g.xe, g.nd⟩

/-! ### readings that are the semantics itself -/
def tW (X : Cx) (e : Expr) : TE := fun σ H Q => ∀ pins s, Inv X pins σ H s → wpAny (model X.prog X.w) X.A (eval e X.env) (EP X pins σ Q) X.xe s
def tWT (X : Cx) (e : Expr) : TT := fun σ H Q => ∀ pins s, Inv X pins σ H s → wpAny (model X.prog X.w) X.A (isTrue e X.env (eval e X.env)) (TP X pins σ Q) X.xe s
def tWs (X : Cx) (st : List Stmt) : TS := fun D σ H => ∀ pins s, Inv X pins σ H s → wpAny (model X.prog X.w) X.A (execs st X.env) (SP X pins D) X.xe s
section
variable {X : Cx}
theorem peW {e : Expr} : PE X e (tW X e) := ⟨fun pins s _ _ _ I h => h pins s I⟩
theorem ptW {e : Expr} : PT X e (tWT X e) := ⟨fun pins s _ _ _ I h => h pins s I⟩
theorem pssW {st : List Stmt} : PSs X st (tWs X st) := ⟨fun pins s _ _ _ I h => h pins s I⟩
end

/-- in such a state e gives a value of which P holds; nothing that stood is changed -/
structure J (X : Cx) (Z : Zn) (Γ : List Ty) (e : Expr) (P : Pr) : Prop where
  run : ∀ own σ H, StO Z own Γ σ H → ∀ Q : VK, (∀ v H', Same H H' → P.p (hid own H') v → Q v H') → tW X e σ H Q
/-- .. a new object -/
structure JN (X : Cx) (Z : Zn) (Γ : List Ty) (e : Expr) (C : Ct) : Prop where
  run : ∀ own σ H, StO Z own Γ σ H → ∀ Q : VK, (∀ p o H', Same H H' → H p = none → H' p = some o → C.c (hid (p :: own) H') o → Q (.ref p) H') → tW X e σ H Q
structure JT (X : Cx) (Z : Zn) (Γ : List Ty) (e : Expr) (b : Bool) : Prop where
  run : ∀ own σ H, StO Z own Γ σ H → ∀ Q : Bool → Hp → Prop, (∀ H', Same H H' → Q b H') → tWT X e σ H Q
def JW (X : Cx) (Z : Zn) (Γ : List Ty) (e : Expr) (b : Bool) : Prop := ∃ t, PW X e t ∧ ∀ own σ H, StO Z own Γ σ H → ∀ Q : Bool → Hp → Prop, (∀ H', Same H H' → Q b H') → t σ H Q
/-- predicates of a list of values -/
inductive All (S : Hp) : List Pr → List V → Prop
  | nil : All S [] []
  | cons {P : Pr} {Ps : List Pr} {v : V} {vs : List V} : P.p S v → All S Ps vs → All S (P :: Ps) (v :: vs)
theorem All.mono {S S' : Hp} (s : Same S S') : ∀ {Ps : List Pr} {vs : List V}, All S Ps vs → All S' Ps vs
  | _, _, .nil => .nil
  | P :: _, _, .cons h t => .cons (P.mono s h) (All.mono s t)
theorem All.length {S : Hp} : ∀ {Ps : List Pr} {vs : List V}, All S Ps vs → Ps.length = vs.length
  | _, _, .nil => rfl
  | _, _, .cons _ t => by rw [List.length_cons, List.length_cons, All.length t]
theorem All.get {S : Hp} : ∀ {Ps : List Pr} {vs : List V} {i : Nat} {P : Pr}, All S Ps vs → Ps[i]? = some P → ∃ v, vs[i]? = some v ∧ P.p S v
  | _, _, _, _, .nil, h => by simp at h
  | _, _, 0, _, .cons h _, e => by simp at e; subst e; exact ⟨_, rfl, h⟩
  | _, _, i + 1, _, .cons _ t, e => by
    obtain ⟨v, h1, h2⟩ := All.get (i := i) t (by simpa using e)
    exact ⟨v, by simpa using h1, h2⟩
theorem All.get' {S : Hp} : ∀ {Ps : List Pr} {vs : List V} {i : Nat} {v : V}, All S Ps vs → vs[i]? = some v → ∃ P, Ps[i]? = some P ∧ P.p S v
  | _, _, _, _, .nil, h => by simp at h
  | _, _, 0, _, .cons h _, e => by simp at e; subst e; exact ⟨_, rfl, h⟩
  | _, _, i + 1, _, .cons _ t, e => by
    obtain ⟨v, h1, h2⟩ := All.get' (i := i) t (by simpa using e)
    exact ⟨v, by simpa using h1, h2⟩
theorem All.append {S : Hp} : ∀ {Ps Qs : List Pr} {vs ws : List V}, All S Ps vs → All S Qs ws → All S (Ps ++ Qs) (vs ++ ws)
  | _, _, _, _, .nil, q => q
  | _, _, _, _, .cons h t, q => .cons h (All.append t q)
theorem All.imp {S : Hp} {α : Type} {f g : α → Pr} (h : ∀ a v, (f a).p S v → (g a).p S v) : ∀ {l : List α} {vs : List V}, All S (l.map f) vs → All S (l.map g) vs
  | [], _, .nil => .nil
  | _ :: _, _, .cons q t => .cons (h _ _ q) (All.imp h t)
/-- arguments -/
def JA (X : Cx) (Z : Zn) (Γ : List Ty) (es : List Expr) (Ps : List Pr) : Prop := ∃ t, PA X es t ∧ ∀ own σ H, StO Z own Γ σ H → ∀ Q : List V → Hp → Prop, (∀ vs H', Same H H' → All (hid own H') Ps vs → Q vs H') → t σ H Q
/-- behind such a state the statements lead to the ends D -/
structure Tr (X : Cx) (Z : Zn) (Γ : List Ty) (sts : List Stmt) (D : Ends) : Prop where
  run : ∀ own σ H, StO Z own Γ σ H → tWs X sts D σ H
instance {X : Cx} {Z : Zn} {Γ : List Ty} {e : Expr} {P : Pr} : CoeFun (J X Z Γ e P) (fun _ => ∀ own σ H, StO Z own Γ σ H → ∀ Q : VK, (∀ v H', Same H H' → P.p (hid own H') v → Q v H') → tW X e σ H Q) := ⟨J.run⟩
instance {X : Cx} {Z : Zn} {Γ : List Ty} {e : Expr} {C : Ct} : CoeFun (JN X Z Γ e C) (fun _ => ∀ own σ H, StO Z own Γ σ H → ∀ Q : VK, (∀ p o H', Same H H' → H p = none → H' p = some o → C.c (hid (p :: own) H') o → Q (.ref p) H') → tW X e σ H Q) := ⟨JN.run⟩
instance {X : Cx} {Z : Zn} {Γ : List Ty} {e : Expr} {b : Bool} : CoeFun (JT X Z Γ e b) (fun _ => ∀ own σ H, StO Z own Γ σ H → ∀ Q : Bool → Hp → Prop, (∀ H', Same H H' → Q b H') → tWT X e σ H Q) := ⟨JT.run⟩
instance {X : Cx} {Z : Zn} {Γ : List Ty} {sts : List Stmt} {D : Ends} : CoeFun (Tr X Z Γ sts D) (fun _ => ∀ own σ H, StO Z own Γ σ H → tWs X sts D σ H) := ⟨Tr.run⟩
/-- a state of one of these contexts -/
def In (Z : Zn) (I : List Ty → Prop) : St → Hp → Prop := fun σ H => ∃ Γ own, I Γ ∧ StO Z own Γ σ H

section
variable {X : Cx} {Z : Zn} {Γ : List Ty} {e : Expr} {P : Pr} {C : Ct}
theorem j_of {t : TE} (h : PE X e t) (ev : ∀ own σ H, StO Z own Γ σ H → ∀ Q : VK, (∀ v H', Same H H' → P.p (hid own H') v → Q v H') → t σ H Q) : J X Z Γ e P :=
  ⟨fun own σ H g Q q pins s I => h.run pins s σ H Q I (ev own σ H g Q q)⟩
theorem jn_of {t : TE} (h : PE X e t) (ev : ∀ own σ H, StO Z own Γ σ H → ∀ Q : VK, (∀ p o H', Same H H' → H p = none → H' p = some o → C.c (hid (p :: own) H') o → Q (.ref p) H') → t σ H Q) : JN X Z Γ e C :=
  ⟨fun own σ H g Q q pins s I => h.run pins s σ H Q I (ev own σ H g Q q)⟩
theorem jt_of {b : Bool} {t : TT} (h : PT X e t) (ev : ∀ own σ H, StO Z own Γ σ H → ∀ Q : Bool → Hp → Prop, (∀ H', Same H H' → Q b H') → t σ H Q) : JT X Z Γ e b :=
  ⟨fun own σ H g Q q pins s I => h.run pins s σ H Q I (ev own σ H g Q q)⟩
theorem J.imp {P' : Pr} (h : J X Z Γ e P) (i : ∀ S v, P.p S v → P'.p S v) : J X Z Γ e P' := ⟨fun own σ H g Q q => h own σ H g Q fun v H' s p => q v H' s (i _ _ p)⟩
theorem J.to {P' : Pr} (h : J X Z Γ e P) (i : P = P') : J X Z Γ e P' := i ▸ h
theorem JT.to {b b' : Bool} (h : JT X Z Γ e b) (i : b = b') : JT X Z Γ e b' := i ▸ h
/-- a new object that nobody owns is a value -/
theorem J.new (h : JN X Z Γ e C) (i : ∀ (S : Hp) p o, S p = some o → C.c S o → P.p S (.ref p)) : J X Z Γ e P := ⟨fun own σ H g Q q => h own σ H g Q fun p o H' s hp ho c =>
  q (.ref p) H' s (i _ p o ((hid_out (fun z => (g.dom p z).1 hp)).trans ho) (C.mono (hid_mono (fun _ h => List.mem_cons_of_mem _ h) (.refl H')) c))⟩
end
end Wd

end

section
set_option maxRecDepth 100000
set_option maxHeartbeats 4000000
namespace Wd
open PySem PySem.Spec L2

/-! ### predicates -/
theorem Same.tup {K : PySem.W.Frag} {H H' : Hp} {a : Addr} {xs : List V} (e : Same H H') (h : SqT K H a xs) : SqT K H' a xs := by
  rcases h with (h | ⟨o, h⟩) | h
  · exact .inl (.inl (e _ _ h))
  · exact .inl (.inr ⟨o, e _ _ h⟩)
  · exact .inr h
def isV (v : V) : Pr := ⟨fun _ w => w = v, fun _ h => h⟩
abbrev isI (i : Int) : Pr := isV (.int i)
abbrev isB (b : Bool) : Pr := isV (.bl b)
abbrev isS (s : Str) : Pr := isV (.str s)
abbrev isN : Pr := isV .non
def isT (K : PySem.W.Frag) (Ps : List Pr) : Pr := ⟨fun S v => ∃ a vs, v = .ref a ∧ SqT K S a vs ∧ All S Ps vs, fun s ⟨a, vs, e, h, q⟩ => ⟨a, vs, e, Same.tup s h, q.mono s⟩⟩
/-- .. a tuple of the program's own making -/
def isTt (Ps : List Pr) : Pr := ⟨fun S v => ∃ a vs, v = .ref a ∧ S a = some (.tup vs) ∧ All S Ps vs, fun s ⟨a, vs, e, h, q⟩ => ⟨a, vs, e, s _ _ h, q.mono s⟩⟩
theorem tt_T {K : PySem.W.Frag} {Ps : List Pr} (S : Hp) (v : V) (h : (isTt Ps).p S v) : (isT K Ps).p S v := let ⟨a, vs, e, h, q⟩ := h; ⟨a, vs, e, SqT.of h, q⟩
/-- a list that no longer changes: one of the program's own making; one that may be read -/
def isL (Ps : List Pr) : Pr := ⟨fun S v => ∃ a vs, v = .ref a ∧ S a = some (.lst vs) ∧ All S Ps vs, fun s ⟨a, vs, e, h, q⟩ => ⟨a, vs, e, s _ _ h, q.mono s⟩⟩
def isR (K : PySem.W.Frag) (Ps : List Pr) : Pr := ⟨fun S v => ∃ a vs, v = .ref a ∧ SqL K S a vs ∧ All S Ps vs, fun s ⟨a, vs, e, h, q⟩ => ⟨a, vs, e, L2.Same.seq s h, q.mono s⟩⟩
/-- P tells of a list -/
def LstP (K : PySem.W.Frag) (P : Pr) (Ps : List Pr) : Prop := ∀ S v, P.p S v → (isR K Ps).p S v
theorem lst_L {K : PySem.W.Frag} {Ps : List Pr} : LstP K (isL Ps) Ps := fun _ _ ⟨a, vs, e, h, q⟩ => ⟨a, vs, e, SqL.of h, q⟩
theorem lst_R {K : PySem.W.Frag} {Ps : List Pr} : LstP K (isR K Ps) Ps := fun _ _ h => h
def TupP (K : PySem.W.Frag) (P : Pr) (Ps : List Pr) : Prop := ∀ S v, P.p S v → (isT K Ps).p S v
theorem tup_Tt {K : PySem.W.Frag} {Ps : List Pr} : TupP K (isTt Ps) Ps := tt_T
theorem tup_T {K : PySem.W.Frag} {Ps : List Pr} : TupP K (isT K Ps) Ps := fun _ _ h => h
def Pr.ex {α : Type} (f : α → Pr) : Pr := ⟨fun S v => ∃ a, (f a).p S v, fun s ⟨a, h⟩ => ⟨a, (f a).mono s h⟩⟩
def Pr.and (φ : Prop) (P : Pr) : Pr := ⟨fun S v => φ ∧ P.p S v, fun s ⟨a, h⟩ => ⟨a, P.mono s h⟩⟩
/-- an owned list -/
def ownL (Ps : List Pr) : Ct := ⟨fun S o => ∃ vs, o = .lst vs ∧ All S Ps vs, fun s ⟨vs, e, q⟩ => ⟨vs, e, q.mono s⟩, fun ⟨vs, e, _⟩ ws z => by subst e; cases z⟩

section
variable {u : Uni} {N : List Str} {sc : Scope} {k : Nat} {X : Cx} {Z : Zn} {Γ : List Ty} {a b c e : Expr} {P P1 P2 P3 : Pr} {pos : Pos} {x : Str}

/-! ### names and constants -/
def okVar (sc : Scope) (x : Str) : Bool := (match sc.names.lookup x with | some .local => true | some .cell => true | some .free => true | _ => false) && (!(x == ("__debug__" : Str)) && !(x == ("__classdict__" : Str)))
theorem okVar_vis {sc : Scope} {x : Str} (h : okVar sc x = true) : Vis sc x ∧ (x == ("__debug__" : Str)) = false ∧ (x == ("__classdict__" : Str)) = false := by
  obtain ⟨h1, h2⟩ := Bool.and_eq_true_iff.mp h
  obtain ⟨h3, h4⟩ := Bool.and_eq_true_iff.mp h2
  refine ⟨?_, by simpa using h3, by simpa using h4⟩
  unfold Vis
  revert h1
  cases sc.names.lookup x with
  | none => intro z; cases z
  | some y => cases y <;> intro z <;> first | exact .inl rfl | exact .inr (.inl rfl) | exact .inr (.inr rfl) | cases z
theorem j_var (g : Good u N sc k X) (i : Nat) (hΓ : Γ[i]? = some (.val P)) (hN : N[i]? = some x) (hv : okVar sc x = true) : J X Z Γ (.Name x pos) P := by
  obtain ⟨rfl, rfl, rfl, -, -, -, -⟩ := g
  obtain ⟨h1, h2, h3⟩ := okVar_vis hv
  refine j_of (pe_var hN h1 h2 h3) fun own σ H g Q q => ?_
  obtain ⟨v, e, h⟩ := g.val hΓ
  exact ⟨v, e, q v H (.refl H) h⟩
/-- a name is looked up -/
structure LK (N : List Str) (sc : Scope) (Γ : List Ty) (x : Str) (P : Pr) : Prop where
  ex : ∃ i : Nat, Γ[i]? = some (.val P) ∧ N[i]? = some x ∧ okVar sc x = true
theorem lk (i : Nat) (hN : N[i]? = some x) (hΓ : Γ[i]? = some (.val P)) (hv : okVar sc x = true) : LK N sc Γ x P := ⟨i, hΓ, hN, hv⟩
theorem j_nm (g : Good u N sc k X) (h : LK N sc Γ x P) : J X Z Γ (.Name x pos) P := let ⟨i, h1, h2, h3⟩ := h.ex; j_var g i h1 h2 h3
theorem j_int {i : Int} {j : Nat} : J X Z Γ (.Constant (.int i) j pos) (isI i) := j_of pe_int fun _ _ H _ Q q => q _ H (.refl H) rfl
theorem j_bl {i : Bool} {j : Nat} : J X Z Γ (.Constant (.bool i) j pos) (isB i) := j_of pe_bl fun _ _ H _ Q q => q _ H (.refl H) rfl
theorem j_non {j : Nat} : J X Z Γ (.Constant .none j pos) isN := j_of pe_non fun _ _ H _ Q q => q _ H (.refl H) rfl
theorem j_str {s : Str} {j : Nat} : J X Z Γ (.Constant (.str s) j pos) (isS s) := j_of pe_str fun _ _ H _ Q q => q _ H (.refl H) rfl
def okGl (sc : Scope) (x : Str) : Bool := (match sc.names.lookup x with | some .globalImplicit => true | _ => false) && !(x == ("__debug__" : Str)) && !(x == ("__name__" : Str))
theorem okGl_gl {sc : Scope} {x : Str} (h : okGl sc x = true) : sc.names.lookup x = some .globalImplicit ∧ (x == ("__debug__" : Str)) = false ∧ x ≠ "__name__" := by
  obtain ⟨h1, h2⟩ := Bool.and_eq_true_iff.mp h
  obtain ⟨h3, h4⟩ := Bool.and_eq_true_iff.mp h1
  refine ⟨?_, by simpa using h4, by simpa using h2⟩
  revert h3
  cases sc.names.lookup x with
  | none => intro z; cases z
  | some y => cases y <;> intro z <;> first | rfl | cases z
/-- a constant of the module -/
structure Glo (u : Uni) (x : Str) (P : Pr) : Prop where
  ex : ∃ w v, u.mg x = some w ∧ RelV v w ∧ ∀ S, P.p S v
theorem j_glo (g : Good u N sc k X) (h : Glo u x P) (hg : okGl sc x = true) : J X Z Γ (.Name x pos) P := by
  obtain ⟨rfl, rfl, rfl, -, -, -, -⟩ := g
  obtain ⟨w, v, h1, h2, h3⟩ := h.ex
  obtain ⟨g1, g2, _⟩ := okGl_gl hg
  exact j_of (pe_glob g1 h1 h2 g2) fun own _ H _ Q q => q v H (.refl H) (h3 _)

/-! ### operators -/
/-- what an operator gives on values of which P1, P2 hold -/
def BinR (X : Cx) (op : Operator) (P1 P2 P : Pr) : Prop := ∃ r, OpR X (binaryOp op) r ∧ ∀ (own : List Addr) (H : Hp) (v1 v2 : V), (∀ a ∈ own, H a ≠ none) → P1.p (hid own H) v1 → P2.p (hid own H) v2 → ∀ Q : VK, (∀ v H', Same H H' → P.p (hid own H') v → Q v H') → r v1 v2 H Q
theorem j_bin {op : Operator} (ha : J X Z Γ a P1) (hb : J X Z Γ b P2) (h : BinR X op P1 P2 P) : J X Z Γ (.BinOp a op b pos) P := by
  obtain ⟨r, ho, hr⟩ := h
  refine j_of (pe_op ho peW peW) fun own σ H g Q q => ?_
  refine ha own σ H g _ fun v1 H1 s1 p1 => ?_
  refine hb own σ H1 (g.grow s1) _ fun v2 H2 s2 p2 => ?_
  exact hr own H2 v1 v2 (g.grow (s1.trans s2)).dom' (P1.mono (hid_grow s2) p1) p2 Q fun v H' s p => q v H' ((s1.trans s2).trans s) p
theorem bin_add {i j : Int} : BinR X .Add (isI i) (isI j) (isI (i + j)) := ⟨_, op_add, fun _ H _ _ _ e1 e2 _ q => ⟨_, _, e1, e2, q _ H (.refl H) rfl⟩⟩
theorem bin_sub {i j : Int} : BinR X .Sub (isI i) (isI j) (isI (i - j)) := ⟨_, op_sub, fun _ H _ _ _ e1 e2 _ q => ⟨_, _, e1, e2, q _ H (.refl H) rfl⟩⟩
theorem bin_mul {i j : Int} (h : CMulW i j) : BinR X .Mult (isI i) (isI j) (isI (i * j)) := ⟨_, op_mulW, fun _ H _ _ _ e1 e2 _ q => ⟨_, _, e1, e2, h, q _ H (.refl H) rfl⟩⟩
theorem bin_fdiv {i j : Int} (h : CDivW i j) : BinR X .FloorDiv (isI i) (isI j) (isI (i / j)) := ⟨_, op_fdivW, fun _ H _ _ _ e1 e2 _ q => ⟨_, _, e1, e2, h, q _ H (.refl H) rfl⟩⟩
theorem bin_mod {i j : Int} (h : 0 < j) : BinR X .Mod (isI i) (isI j) (isI (i % j)) := ⟨_, op_mod, fun _ H _ _ _ e1 e2 _ q => ⟨_, _, e1, e2, h, q _ H (.refl H) rfl⟩⟩
theorem bin_pow {i j : Int} (h : CPow i j) : BinR X .Pow (isI i) (isI j) (isI (i ^ j.toNat)) := ⟨_, op_pow, fun _ H _ _ _ e1 e2 _ q => ⟨_, _, e1, e2, h, q _ H (.refl H) rfl⟩⟩
theorem bin_addS {i j : Str} (h : i.length + j.length ≤ sizeLine) : BinR X .Add (isS i) (isS j) (isS (i ++ j)) := ⟨_, op_add_str, fun _ H _ _ _ e1 e2 _ q => ⟨_, _, e1, e2, h, q _ H (.refl H) rfl⟩⟩
/-- .. a comparison -/
def CmpR (X : Cx) (op : CmpOp) (P1 P2 : Pr) (b : Bool) : Prop := ∃ r, OpR X (compareOp op) r ∧ ∀ (own : List Addr) (H : Hp) (v1 v2 : V), P1.p (hid own H) v1 → P2.p (hid own H) v2 → ∀ Q : VK, Q (.bl b) H → r v1 v2 H Q
theorem cmp_ev {r : R2} {d : Bool} (ha : J X Z Γ a P1) (hb : J X Z Γ b P2) (hr : ∀ (own : List Addr) (H : Hp) (v1 v2 : V), P1.p (hid own H) v1 → P2.p (hid own H) v2 → ∀ Q : VK, Q (.bl d) H → r v1 v2 H Q)
    {own : List Addr} {σ : L2.St} {H : Hp} (g : StO Z own Γ σ H) {Q : VK} (q : ∀ H', Same H H' → Q (.bl d) H') : tOp r (tW X a) (tW X b) σ H Q :=
  ha own σ H g _ fun v1 H1 s1 p1 => hb own σ H1 (g.grow s1) _ fun v2 H2 s2 p2 => hr own H2 v1 v2 (P1.mono (hid_grow s2) p1) p2 Q (q H2 (s1.trans s2))
theorem j_cmp {op : CmpOp} {d : Bool} (ha : J X Z Γ a P1) (hb : J X Z Γ b P2) (h : CmpR X op P1 P2 d) (hm : behindInMarks op b = false) : J X Z Γ (.Compare a [op] [b] pos) (isB d) := by
  obtain ⟨r, ho, hr⟩ := h
  exact j_of (pe_cmpR ho peW peW hm) fun own σ H g Q q => cmp_ev ha hb hr g fun H' s => q _ H' s rfl
theorem jt_cmp {op : CmpOp} {d : Bool} (ha : J X Z Γ a P1) (hb : J X Z Γ b P2) (h : CmpR X op P1 P2 d) (hm : behindInMarks op b = false) : JT X Z Γ (.Compare a [op] [b] pos) d := by
  obtain ⟨r, ho, hr⟩ := h
  exact jt_of (pt_cmpR ho peW peW hm) fun own σ H g Q q => cmp_ev ha hb hr g fun H' s => ⟨d, rfl, q H' s⟩
theorem cmp_lt {i j : Int} : CmpR X .Lt (isI i) (isI j) (decide (i < j)) := ⟨_, op_lt, fun _ _ _ _ e1 e2 _ q => ⟨_, _, e1, e2, q⟩⟩
theorem cmp_le {i j : Int} : CmpR X .LtE (isI i) (isI j) (decide (i ≤ j)) := ⟨_, op_le, fun _ _ _ _ e1 e2 _ q => ⟨_, _, e1, e2, q⟩⟩
theorem cmp_gt {i j : Int} : CmpR X .Gt (isI i) (isI j) (decide (j < i)) := ⟨_, op_gt, fun _ _ _ _ e1 e2 _ q => ⟨_, _, e1, e2, q⟩⟩
theorem cmp_ge {i j : Int} : CmpR X .GtE (isI i) (isI j) (decide (j ≤ i)) := ⟨_, op_ge, fun _ _ _ _ e1 e2 _ q => ⟨_, _, e1, e2, q⟩⟩
theorem cmp_eqI {i j : Int} : CmpR X .Eq (isI i) (isI j) (decide (i = j)) := ⟨_, op_eq, fun _ _ _ _ e1 e2 _ q => by subst e1 e2; exact ⟨rfl, by rw [show decide (V.int i = V.int j) = decide (i = j) from by by_cases h : i = j <;> simp [h]]; exact q⟩⟩
theorem cmp_neI {i j : Int} : CmpR X .NotEq (isI i) (isI j) (!decide (i = j)) := ⟨_, op_ne, fun _ _ _ _ e1 e2 _ q => by subst e1 e2; exact ⟨rfl, by rw [show decide (V.int i = V.int j) = decide (i = j) from by by_cases h : i = j <;> simp [h]]; exact q⟩⟩
theorem cmp_eqS {i j : Str} : CmpR X .Eq (isS i) (isS j) (decide (i = j)) := ⟨_, op_eq, fun _ _ _ _ e1 e2 _ q => by subst e1 e2; exact ⟨rfl, by rw [show decide (V.str i = V.str j) = decide (i = j) from by by_cases h : i = j <;> simp [h]]; exact q⟩⟩
theorem cmp_neS {i j : Str} : CmpR X .NotEq (isS i) (isS j) (!decide (i = j)) := ⟨_, op_ne, fun _ _ _ _ e1 e2 _ q => by subst e1 e2; exact ⟨rfl, by rw [show decide (V.str i = V.str j) = decide (i = j) from by by_cases h : i = j <;> simp [h]]; exact q⟩⟩
theorem cmp_isN {d : Bool} (h : ∀ S v, P.p S v → decide (v = .non) = d) : CmpR X .Is P isN d := ⟨_, op_isN, fun _ _ v _ e1 e2 _ q => ⟨e2, by rw [h _ _ e1]; exact q⟩⟩
theorem cmp_isNotN {d : Bool} (h : ∀ S v, P.p S v → decide (v = .non) = d) : CmpR X .IsNot P isN (!d) := ⟨_, op_notN, fun _ _ v _ e1 e2 _ q => ⟨e2, by rw [h _ _ e1]; exact q⟩⟩
theorem j_neg {i : Int} (ha : J X Z Γ a (isI i)) : J X Z Γ (.UnaryOp .USub a pos) (isI (-i)) := j_of (pe_un un_neg peW) fun own σ H g Q q => ha own σ H g _ fun v H1 s p => ⟨i, p, q _ H1 s rfl⟩

/-! ### tests -/
theorem jt_of_b {d : Bool} (h : J X Z Γ e (isB d)) (he : ∀ whole, isTrue e X.env whole = (do let v ← whole; standAt e.pos; holding [v] (truthy v))) : JT X Z Γ e d :=
  jt_of (pt_val peW he) fun own σ H g Q q => h own σ H g _ fun v H1 s p => ⟨d, p, q H1 s⟩
theorem jt_name {d : Bool} (h : J X Z Γ (.Name x pos) (isB d)) : JT X Z Γ (.Name x pos) d := jt_of_b h (by intro _; rfl)
theorem jt_call {d : Bool} {f : Expr} {es : List Expr} {ks : List Keyword} (h : J X Z Γ (.Call f es ks pos) (isB d)) : JT X Z Γ (.Call f es ks pos) d := jt_of_b h (by intro _; rfl)
theorem jt_const {d : Bool} {cc : Const} {n : Nat} (h : J X Z Γ (.Constant cc n pos) (isB d)) : JT X Z Γ (.Constant cc n pos) d := jt_of_b h (by intro _; rfl)
theorem jt_attr {d : Bool} {f : Str} (h : J X Z Γ (.Attribute e f pos) (isB d)) : JT X Z Γ (.Attribute e f pos) d := jt_of_b h (by intro _; rfl)
theorem jt_not {d : Bool} (h : JT X Z Γ a d) : JT X Z Γ (.UnaryOp .Not a pos) (!d) := jt_of (pt_not ptW) fun own σ H g Q q => h own σ H g _ fun H1 s => q H1 s
theorem jt_bool {op : BoolOp} {vs : List Expr} {d : Bool} (h : JW X Z Γ (.BoolOp op vs pos) d) : JT X Z Γ (.BoolOp op vs pos) d := by
  obtain ⟨t, h1, h2⟩ := h
  exact jt_of h1.pt h2
variable {rest : List Expr} {d1 d2 : Bool}
theorem jw_and1 (h : JT X Z Γ a d1) : JW X Z Γ (.BoolOp .And [a] pos) d1 := ⟨_, pw_and1 ptW, h⟩
theorem jw_or1 (h : JT X Z Γ a d1) : JW X Z Γ (.BoolOp .Or [a] pos) d1 := ⟨_, pw_or1 ptW, h⟩
theorem jw_and (h : JT X Z Γ a d1) (h2 : d1 = true → JW X Z Γ (.BoolOp .And (b :: rest) pos) d2) : JW X Z Γ (.BoolOp .And (a :: b :: rest) pos) (d1 && d2) := by
  cases d1 with
  | true =>
    obtain ⟨t, p, ev⟩ := h2 rfl
    refine ⟨_, pw_and ptW p, fun own σ H g Q q => h own σ H g _ fun H1 s1 => ?_⟩
    exact iteT (ev own σ H1 (g.grow s1) _ fun H2 s2 => q H2 (s1.trans s2))
  | false =>
    obtain ⟨t, p⟩ : ∃ t, PW X (.BoolOp .And (b :: rest) pos) t := ⟨fun _ _ _ => False, ⟨fun _ _ _ _ _ _ _ z => z.elim⟩⟩
    exact ⟨_, pw_and ptW p, fun own σ H g Q q => h own σ H g _ fun H1 s1 => iteF (q H1 s1)⟩
theorem jw_andF (h : JT X Z Γ a false) : JW X Z Γ (.BoolOp .And (a :: b :: rest) pos) false := jw_and (d2 := false) h fun z => (nomatch z)
theorem jw_or (h : JT X Z Γ a d1) (h2 : d1 = false → JW X Z Γ (.BoolOp .Or (b :: rest) pos) d2) : JW X Z Γ (.BoolOp .Or (a :: b :: rest) pos) (d1 || d2) := by
  cases d1 with
  | false =>
    obtain ⟨t, p, ev⟩ := h2 rfl
    refine ⟨_, pw_or ptW p, fun own σ H g Q q => h own σ H g _ fun H1 s1 => ?_⟩
    exact iteF (ev own σ H1 (g.grow s1) _ fun H2 s2 => q H2 (s1.trans s2))
  | true =>
    obtain ⟨t, p⟩ : ∃ t, PW X (.BoolOp .Or (b :: rest) pos) t := ⟨fun _ _ _ => False, ⟨fun _ _ _ _ _ _ _ z => z.elim⟩⟩
    exact ⟨_, pw_or ptW p, fun own σ H g Q q => h own σ H g _ fun H1 s1 => iteT (q H1 s1)⟩
theorem j_one {op : BoolOp} (h : J X Z Γ a P) : J X Z Γ (.BoolOp op [a] pos) P := j_of (pe_one peW) h
theorem peF {e : Expr} : PE X e (fun _ _ _ => False) := ⟨fun _ _ _ _ _ _ z => z.elim⟩
theorem j_and (h : J X Z Γ a (isB d1)) (h2 : d1 = true → J X Z Γ (.BoolOp .And (b :: rest) pos) (isB d2)) : J X Z Γ (.BoolOp .And (a :: b :: rest) pos) (isB (d1 && d2)) := by
  cases d1 with
  | true => exact j_of (pe_and peW peW) fun own σ H g Q q => h own σ H g _ fun v H1 s1 p => ⟨true, p, iteT (h2 rfl own σ H1 (g.grow s1) _ fun v2 H2 s2 p2 => q v2 H2 (s1.trans s2) p2)⟩
  | false => exact j_of (pe_and peW peF) fun own σ H g Q q => h own σ H g _ fun v H1 s1 p => ⟨false, p, iteF (q _ H1 s1 rfl)⟩
theorem j_or (h : J X Z Γ a (isB d1)) (h2 : d1 = false → J X Z Γ (.BoolOp .Or (b :: rest) pos) (isB d2)) : J X Z Γ (.BoolOp .Or (a :: b :: rest) pos) (isB (d1 || d2)) := by
  cases d1 with
  | false => exact j_of (pe_or peW peW) fun own σ H g Q q => h own σ H g _ fun v H1 s1 p => ⟨false, p, iteF (h2 rfl own σ H1 (g.grow s1) _ fun v2 H2 s2 p2 => q v2 H2 (s1.trans s2) p2)⟩
  | true => exact j_of (pe_or peW peF) fun own σ H g Q q => h own σ H g _ fun v H1 s1 p => ⟨true, p, iteT (q _ H1 s1 rfl)⟩
theorem j_not (h : J X Z Γ a (isB d1)) : J X Z Γ (.UnaryOp .Not a pos) (isB (!d1)) := j_of (pe_not peW) fun own σ H g Q q => h own σ H g _ fun v H1 s1 p => ⟨d1, p, q _ H1 s1 rfl⟩
/-- a if t else b -/
theorem j_ifT (ht : JT X Z Γ c true) (ha : J X Z Γ a P) : J X Z Γ (.IfExp c a b pos) P := j_of (pe_ifExp ptW peW peF) fun own σ H g Q q => ht own σ H g _ fun H1 s1 => iteT (ha own σ H1 (g.grow s1) _ fun v H2 s2 p => q v H2 (s1.trans s2) p)
theorem j_ifF (ht : JT X Z Γ c false) (hb : J X Z Γ b P) : J X Z Γ (.IfExp c a b pos) P := j_of (pe_ifExp ptW peF peW) fun own σ H g Q q => ht own σ H g _ fun H1 s1 => iteF (hb own σ H1 (g.grow s1) _ fun v H2 s2 p => q v H2 (s1.trans s2) p)
theorem j_if {d : Bool} (ht : JT X Z Γ c d) (ha : d = true → J X Z Γ a P) (hb : d = false → J X Z Γ b P) : J X Z Γ (.IfExp c a b pos) P := by
  cases d with
  | true => exact j_ifT ht (ha rfl)
  | false => exact j_ifF ht (hb rfl)
/-- a < b < c -/
theorem jt_chain {op op' : CmpOp} (ha : J X Z Γ a P1) (hb : J X Z Γ b P2) (hc : J X Z Γ c P3) (h : CmpR X op P1 P2 d1) (h' : CmpR X op' P2 P3 d2) (hm : behindInMarks op' c = false) :
    JT X Z Γ (.Compare a [op, op'] [b, c] pos) (d1 && d2) := by
  obtain ⟨r, ho, hr⟩ := h
  obtain ⟨r', ho', hr'⟩ := h'
  refine jt_of (pt_chain ho ho' peW peW peW hm) fun own σ H g Q q => ?_
  refine ha own σ H g _ fun v1 H1 s1 p1 => ?_
  refine hb own σ H1 (g.grow s1) _ fun v2 H2 s2 p2 => ?_
  refine hr own H2 v1 v2 (P1.mono (hid_grow s2) p1) p2 _ ⟨d1, rfl, ?_⟩
  cases d1 with
  | true =>
    refine iteT (hc own σ H2 (g.grow (s1.trans s2)) _ fun v3 H3 s3 p3 => ?_)
    exact hr' own H3 v2 v3 (P2.mono (hid_grow s3) p2) p3 _ ⟨d2, rfl, q H3 ((s1.trans s2).trans s3)⟩
  | false => exact iteF ⟨false, rfl, q H2 (s1.trans s2)⟩
theorem j_chain {op op' : CmpOp} (ha : J X Z Γ a P1) (hb : J X Z Γ b P2) (hc : J X Z Γ c P3) (h : CmpR X op P1 P2 d1) (h' : CmpR X op' P2 P3 d2) (hm : behindInMarks op' c = false) :
    J X Z Γ (.Compare a [op, op'] [b, c] pos) (isB (d1 && d2)) := by
  obtain ⟨r, ho, hr⟩ := h
  obtain ⟨r', ho', hr'⟩ := h'
  refine j_of (pe_chain ho ho' peW peW peW hm) fun own σ H g Q q => ?_
  refine ha own σ H g _ fun v1 H1 s1 p1 => ?_
  refine hb own σ H1 (g.grow s1) _ fun v2 H2 s2 p2 => ?_
  refine hr own H2 v1 v2 (P1.mono (hid_grow s2) p1) p2 _ ⟨d1, rfl, ?_⟩
  cases d1 with
  | true =>
    refine iteT (hc own σ H2 (g.grow (s1.trans s2)) _ fun v3 H3 s3 p3 => ?_)
    exact hr' own H3 v2 v3 (P2.mono (hid_grow s3) p2) p3 _ (q _ H3 ((s1.trans s2).trans s3) rfl)
  | false => exact iteF (q _ H2 (s1.trans s2) rfl)
end
end Wd

end

section
set_option maxRecDepth 100000
set_option maxHeartbeats 4000000
namespace Wd
open PySem PySem.Spec L2

theorem All.len_atI {S : Hp} {Ps : List Pr} {vs : List V} {n : Int} {P : Pr} (h : All S Ps vs) (e : atI Ps n = some P) : ∃ v, atI vs n = some v ∧ P.p S v := by
  unfold atI at e ⊢
  rw [← h.length]
  cases q : ixN Ps.length n with
  | none => rw [q] at e; cases e
  | some j =>
    rw [q] at e
    exact h.get e

section
variable {u : Uni} {N : List Str} {sc : Scope} {k : Nat} {X : Cx} {Z : Zn} {Γ : List Ty} {a b c e : Expr} {es : List Expr} {P P1 P2 P3 : Pr} {Ps : List Pr} {pos p : Pos} {x : Str}

/-! ### items, displays -/
theorem j_ixT (g : Good u N sc k X) {n : Int} {Pa : Pr} (ha : J X Z Γ a Pa) (hb : J X Z Γ b (isI n)) (ht : TupP u.K Pa Ps) (h : atI Ps n = some P) (hs : PlainIx b := by exact fun _ _ => rfl) : J X Z Γ (.Subscript a b pos) P := by
  obtain ⟨rfl, -, -, -, -, -, -⟩ := g
  refine j_of (pe_ix ix_tup peW peW hs) fun own σ H g Q q => ha own σ H g _ fun v1 H1 s1 p1 => hb own σ H1 (g.grow s1) _ fun v2 H2 s2 p2 => ?_
  obtain ⟨t, vs, e1, h1, h2⟩ := ht _ _ (Pa.mono (hid_grow s2) p1)
  obtain ⟨v, h3, h4⟩ := h2.len_atI h
  exact ⟨t, vs, n, v, e1, p2, Same.tup hid_sub h1, h3, q v H2 (s1.trans s2) h4⟩
theorem j_ixL (g : Good u N sc k X) {n : Int} {Pa : Pr} (ha : J X Z Γ a Pa) (hb : J X Z Γ b (isI n)) (ht : LstP u.K Pa Ps) (h : atI Ps n = some P) (hs : PlainIx b := by exact fun _ _ => rfl) : J X Z Γ (.Subscript a b pos) P := by
  obtain ⟨rfl, -, -, -, -, -, -⟩ := g
  refine j_of (pe_ix ix_list peW peW hs) fun own σ H g Q q => ha own σ H g _ fun v1 H1 s1 p1 => hb own σ H1 (g.grow s1) _ fun v2 H2 s2 p2 => ?_
  obtain ⟨t, vs, e1, h1, h2⟩ := ht _ _ (Pa.mono (hid_grow s2) p1)
  obtain ⟨v, h3, h4⟩ := h2.len_atI h
  exact ⟨t, vs, n, v, e1, p2, L2.Same.seq hid_sub h1, h3, q v H2 (s1.trans s2) h4⟩
theorem j_ixS {n : Int} {s : Str} {ch : Nat} (ha : J X Z Γ a (isS s)) (hb : J X Z Γ b (isI n)) (hl : s.length ≤ sizeLine) (h : atI s.cps.toList n = some ch) (hs : PlainIx b := by exact fun _ _ => rfl) : J X Z Γ (.Subscript a b pos) (isS ⟨#[ch]⟩) :=
  j_of (pe_ix ix_str peW peW hs) fun own σ H g Q q => ha own σ H g _ fun v1 H1 s1 p1 => hb own σ H1 (g.grow s1) _ fun v2 H2 s2 p2 => ⟨s, n, ch, p1, p2, hl, h, q _ H2 (s1.trans s2) rfl⟩
/-- an item, whatever it is taken from -/
def IxP (u : Uni) (P1 : Pr) (n : Int) (P : Pr) : Prop := ∀ {N : List Str} {sc : Scope} {k : Nat} {X : Cx} {Z : Zn} {Γ : List Ty} {a b : Expr} {pos : Pos}, Good u N sc k X → J X Z Γ a P1 → J X Z Γ b (isI n) → PlainIx b → J X Z Γ (.Subscript a b pos) P
theorem ix_T {n : Int} {Pa : Pr} (ht : TupP u.K Pa Ps) (h : atI Ps n = some P) : IxP u Pa n P := fun g ha hb hs => j_ixT g ha hb ht h hs
theorem ix_L {n : Int} {Pa : Pr} (ht : LstP u.K Pa Ps) (h : atI Ps n = some P) : IxP u Pa n P := fun g ha hb hs => j_ixL g ha hb ht h hs
theorem ix_S {n : Int} {s : Str} {ch : Nat} (hl : s.length ≤ sizeLine) (h : atI s.cps.toList n = some ch) : IxP u (isS s) n (isS ⟨#[ch]⟩) := fun g ha hb hs => j_ixS ha hb hl h hs
theorem j_ix (g : Good u N sc k X) {n : Int} (ha : J X Z Γ a P1) (hb : J X Z Γ b (isI n)) (h : IxP u P1 n P) (hs : PlainIx b) : J X Z Γ (.Subscript a b pos) P := h g ha hb hs
theorem ja_nil : JA X Z Γ [] [] := ⟨_, pa_nil, fun own σ H g Q q => q [] H (.refl H) .nil⟩
theorem ja_cons (ha : J X Z Γ e P) (hr : JA X Z Γ es Ps) (hs : starEach (e :: es) X.env = (false, eval e X.env) :: starEach es X.env) : JA X Z Γ (e :: es) (P :: Ps) := by
  obtain ⟨t, h1, h2⟩ := hr
  refine ⟨_, pa_cons peW h1 hs, fun own σ H g Q q => ha own σ H g _ fun v H1 s1 p1 => h2 own σ H1 (g.grow s1) _ fun vs H2 s2 p2 => ?_⟩
  exact q (v :: vs) H2 (s1.trans s2) (.cons (P.mono (hid_grow s2) p1) p2)
/-- a new tuple, a new list -/
theorem j_tup (g : Good u N sc k X) {n : Nat} (h : JA X Z Γ es Ps) (hl : Ps.length ≤ 1000) : J X Z Γ (.Tuple es n pos) (isTt Ps) := by
  obtain ⟨rfl, -, -, -, -, -, -⟩ := g
  obtain ⟨t, h1, h2⟩ := h
  refine j_of (pe_tup h1) fun own σ H g Q q => h2 own σ H g _ fun vs H1 s1 p1 => ⟨Nat.le_of_lt (small1000 (by rw [← p1.length]; exact hl)), fun p hp => ?_⟩
  have s2 : Same H1 (upd H1 p (.tup vs)) := same_new hp
  have hn : p ∉ own := fun z => ((g.grow s1).dom p z).1 hp
  exact q _ _ (s1.trans s2) ⟨p, vs, rfl, (hid_out hn).trans upd_same, p1.mono (hid_grow s2)⟩
theorem jn_lst (h : JA X Z Γ es Ps) (hl : Ps.length ≤ 1000) : JN X Z Γ (.List es pos) (ownL Ps) := by
  obtain ⟨t, h1, h2⟩ := h
  refine jn_of (pe_lst h1) fun own σ H g Q q => h2 own σ H g _ fun vs H1 s1 p1 => ⟨Nat.le_of_lt (small1000 (by rw [← p1.length]; exact hl)), fun p hp => ?_⟩
  have s2 : Same H1 (upd H1 p (.lst vs)) := same_new hp
  exact q p _ _ (s1.trans s2) (L2.Same.free s1 hp) upd_same ⟨vs, rfl, p1.mono (hid_new hp s2)⟩
theorem ownL_isL (S : Hp) (p : Addr) (o : HO) (h : S p = some o) (c : (ownL Ps).c S o) : (isL Ps).p S (.ref p) := by
  obtain ⟨vs, e, q⟩ := c
  subst e
  exact ⟨p, vs, rfl, h, q⟩
theorem j_lst (h : JA X Z Γ es Ps) (hl : Ps.length ≤ 1000) : J X Z Γ (.List es pos) (isL Ps) := J.new (jn_lst h hl) ownL_isL

/-! ### calls -/
/-- the promise of a def that changes nothing -/
def Pf (Ps : List Pr) (ret : Pr) (vs : List V) (H : Hp) (Q : VK) : Prop := ∃ own : List Addr, (∀ a ∈ own, Live (H a)) ∧ All (hid own H) Ps vs ∧ ∀ v H', Same H H' → ret.p (hid own H') v → Q v H'
structure Callable (u : Uni) (x : Str) (k : Nat) (sp : Sp) (dvs : List V) : Prop where
  ex : ∃ f fd ps ds, u.mg x = some (.ref f) ∧ PySem.W.keepIn u.K (.ref f) = true ∧ Binds u.K fd ps ds ∧ Vals dvs ds ∧ FnOk u.P u.w u.K u.mg u.base CX0 k f fd ps sp
theorem vals_all {S : Hp} : ∀ dvs : List V, All S (dvs.map isV) dvs
  | [] => .nil
  | v :: vs => .cons rfl (vals_all vs)
theorem j_callD (g : Good u N sc k X) {j : Nat} {sp : Sp} {dvs : List V} (F : Callable u x j sp dvs) (hj : j ≤ k) {ret : Pr} (hsp : ∀ vs H Q, Pf (Ps ++ dvs.map isV) ret vs H Q → sp vs H Q E0) (ha : JA X Z Γ (e :: es) Ps) (hg : okGl sc x = true)
    (he : starEach (e :: es) X.env = (false, eval e X.env) :: starEach es X.env := by rfl) (hpl : (backTo pos (starEach es X.env)).any (·.1) = false := by rfl) : J X Z Γ (.Call (.Name x p) (e :: es) [] pos) ret := by
  obtain ⟨rfl, rfl, rfl, -, hr, -, -⟩ := g
  obtain ⟨f, fd, ps, ds, h1, h2, h3, h4, h5⟩ := F.ex
  obtain ⟨g1, g2, _⟩ := okGl_gl hg
  obtain ⟨t, a1, a2⟩ := ha
  refine j_of (pe_call h5 (hr.mono hj) g1 h1 h2 h3 h4 pass0 a1 g2 he hpl) fun own σ H g Q q => a2 own σ H g _ fun vs H1 s1 p1 => ?_
  exact hsp _ _ _ ⟨own, (g.grow s1).dom, p1.append (vals_all dvs), fun v H' s p => q v H' (s1.trans s) p⟩
theorem j_call (g : Good u N sc k X) {j : Nat} {sp : Sp} (F : Callable u x j sp []) (hj : j ≤ k) {ret : Pr} (hsp : ∀ vs H Q, Pf Ps ret vs H Q → sp vs H Q E0) (ha : JA X Z Γ (e :: es) Ps) (hg : okGl sc x = true)
    (he : starEach (e :: es) X.env = (false, eval e X.env) :: starEach es X.env := by rfl) (hpl : (backTo pos (starEach es X.env)).any (·.1) = false := by rfl) : J X Z Γ (.Call (.Name x p) (e :: es) [] pos) ret :=
  j_callD g F hj (fun vs H Q h => hsp vs H Q (by rw [List.map_nil, List.append_nil] at h; exact h)) ha hg he hpl
/-- a built-in by its name -/
structure Free (u : Uni) (x : Str) : Prop where
  ex : u.mg x = none
def CalR (X : Cx) (f : Value) (Ps : List Pr) (P : Pr) : Prop := ∃ r, CallR X f r ∧ ∀ (own : List Addr) (H : Hp) (vs : List V), (∀ a ∈ own, H a ≠ none) → All (hid own H) Ps vs → ∀ Q : VK, (∀ v H', Same H H' → P.p (hid own H') v → Q v H') → r vs H Q
theorem j_callB (g : Good u N sc k X) {id : String} (hm : Free u x) (hv : bootBuiltins x = some (.builtin id)) (ha : JA X Z Γ (e :: es) Ps) (h : CalR X (.builtin id) Ps P) (hg : okGl sc x = true)
    (he : starEach (e :: es) X.env = (false, eval e X.env) :: starEach es X.env := by rfl) (hpl : (backTo pos (starEach es X.env)).any (·.1) = false := by rfl) : J X Z Γ (.Call (.Name x p) (e :: es) [] pos) P := by
  obtain ⟨rfl, rfl, rfl, -, -, -, -⟩ := g
  obtain ⟨r, h1, h2⟩ := h
  obtain ⟨g1, g2, g3⟩ := okGl_gl hg
  obtain ⟨t, a1, a2⟩ := ha
  refine j_of (pe_callB h1 g1 hm.ex hv a1 g3 g2 (by assumption) (by assumption)) fun own σ H g Q q => a2 own σ H g _ fun vs H1 s1 p1 => ?_
  exact h2 own H1 vs (g.grow s1).dom' p1 Q fun v H' s p => q v H' (s1.trans s) p
theorem j_callT (g : Good u N sc k X) {T : String} (hm : Free u x) (hv : bootBuiltins x = some (.type T)) (ha : JA X Z Γ (e :: es) Ps) (h : CalR X (.type T) Ps P) (hg : okGl sc x = true)
    (he : starEach (e :: es) X.env = (false, eval e X.env) :: starEach es X.env := by rfl) (hpl : (backTo pos (starEach es X.env)).any (·.1) = false := by rfl) : J X Z Γ (.Call (.Name x p) (e :: es) [] pos) P := by
  obtain ⟨rfl, rfl, rfl, -, -, -, -⟩ := g
  obtain ⟨r, h1, h2⟩ := h
  obtain ⟨g1, g2, g3⟩ := okGl_gl hg
  obtain ⟨t, a1, a2⟩ := ha
  refine j_of (pe_callTy h1 g1 hm.ex hv a1 g3 g2 (by assumption) (by assumption)) fun own σ H g Q q => a2 own σ H g _ fun vs H1 s1 p1 => ?_
  exact h2 own H1 vs (g.grow s1).dom' p1 Q fun v H' s p => q v H' (s1.trans s) p

/-! ### statements -/
variable {D : Ends} {rest : List Stmt}
theorem tr_of {sts : List Stmt} {t : TS} (h : PSs X sts t) (ev : ∀ own σ H, StO Z own Γ σ H → t D σ H) : Tr X Z Γ sts D := ⟨fun own σ H g pins s I => h.run pins s σ H D I (ev own σ H g)⟩
def okLoc (sc : Scope) (x : Str) : Bool := match sc.names.lookup x with | some .local => true | some .cell => true | _ => false
theorem okLoc_loc (h : okLoc sc x = true) : sc.names.lookup x = some .local ∨ sc.names.lookup x = some .cell := by
  unfold okLoc at h
  revert h
  cases sc.names.lookup x with
  | none => intro z; cases z
  | some y => cases y <;> intro z <;> first | exact .inl rfl | exact .inr rfl | cases z
theorem Good.hf (g : Good u N sc k X) (hf : ∀ x, X.fn x = true) (h : okLoc sc x = true) : Loc X.env.scope x ∧ (X.fn x = true ∨ X.env.scope.names.lookup x = some .local) := by
  obtain ⟨rfl, rfl, rfl, -, -, -, nd⟩ := g
  have l := okLoc_loc h
  exact ⟨l, .inl (hf x)⟩
theorem tr_set (g : Good u N sc k X) (hf : ∀ x, X.fn x = true) (i : Nat) (hN : N[i]? = some x) (hl : okLoc sc x = true) (he : J X Z Γ e P) (h : Tr X Z (Γ.set i (.val P)) rest D)
    (hi : Nat.blt i Γ.length = true := by rfl) (hs : swapsWith e (some (.Name x p)) pos.line X.env = pure false := by rfl) : Tr X Z Γ (.Assign [.Name x p] e pos :: rest) D := by
  obtain ⟨l1, l2⟩ := g.hf hf hl
  obtain ⟨rfl, rfl, rfl, -, -, -, nd⟩ := g
  refine tr_of (pss_cons (ps_set (i := i) nd hN l1 peW hs l2) pssW) fun own σ H g => he own σ H g _ fun v H1 s1 p1 => ?_
  exact h own _ H1 ((g.grow s1).set (by rw [Nat.blt_eq] at hi; exact hi) p1)
theorem tr_nil (h : ∀ own σ H, StO Z own Γ σ H → D.nx σ H) : Tr X Z Γ [] D := tr_of pss_nil h
theorem tr_ret (he : J X Z Γ e P) (h : ∀ own σ H v, StO Z own Γ σ H → P.p (hid own H) v → D.rt v H) : Tr X Z Γ (.Return (some e) pos :: rest) D :=
  tr_of (pss_cons (ps_ret peW) pss_never) fun own σ H g => he own σ H g _ fun v H1 s1 p1 => h own σ H1 v (g.grow s1) p1
end
end Wd

end

section
set_option maxRecDepth 100000
set_option maxHeartbeats 4000000
namespace Wd
open PySem PySem.Spec L2
section
variable {u : Uni} {N : List Str} {sc : Scope} {k : Nat} {X : Cx} {Z : Zn} {Γ : List Ty} {a b c e : Expr} {es : List Expr} {P P1 P2 P3 : Pr} {Ps : List Pr} {pos p : Pos} {x : Str} {D : Ends} {rest A B : List Stmt}

theorem tr_expr (he : J X Z Γ e P) (h : Tr X Z Γ rest D) (hs : swapsWith e none pos.line X.env = pure false := by rfl) : Tr X Z Γ (.Expr e pos :: rest) D :=
  tr_of (pss_cons (ps_expr peW hs) pssW) fun own σ H g => he own σ H g _ fun v H1 s1 p1 => h own σ H1 (g.grow s1)
/-- what holds behind a block: the rest of the statements is to be reached -/
def behind (X : Cx) (rest : List Stmt) (D : Ends) : Ends := { D with nx := tWs X rest D }
theorem tr_ifT (ht : JT X Z Γ c true) (h : Tr X Z Γ A (behind X rest D)) : Tr X Z Γ (.If c A B pos :: rest) D :=
  tr_of (pss_cons (ps_if (b := B) (u := tNever) ptW pssW pss_never) pssW) fun own σ H g => ht own σ H g _ fun H1 s1 => iteT (h own σ H1 (g.grow s1))
theorem tr_ifF (ht : JT X Z Γ c false) (h : Tr X Z Γ B (behind X rest D)) : Tr X Z Γ (.If c A B pos :: rest) D :=
  tr_of (pss_cons (ps_if (a := A) (t := tNever) ptW pss_never pssW) pssW) fun own σ H g => ht own σ H g _ fun H1 s1 => iteF (h own σ H1 (g.grow s1))
theorem tr_if {d : Bool} (ht : JT X Z Γ c d) (h1 : d = true → Tr X Z Γ A (behind X rest D)) (h2 : d = false → Tr X Z Γ B (behind X rest D)) : Tr X Z Γ (.If c A B pos :: rest) D := by
  cases d with
  | true => exact tr_ifT ht (h1 rfl)
  | false => exact tr_ifF ht (h2 rfl)
/-- behind the block's end -/
theorem tr_end (h : Tr X Z Γ rest D) : Tr X Z Γ [] (behind X rest D) := tr_nil fun own σ H g => h own σ H g
/-- if c: (raise ..), where c does not hold -/
theorem tr_skip (ht : JT X Z Γ c false) (h : Tr X Z Γ rest D) : Tr X Z Γ (.If c A [] pos :: rest) D := tr_ifF ht (tr_end h)

/-! ### a def -/
structure Defd (u : Uni) (x qual : Str) (st : Stmt) (dvs : List V) : Prop where
  ex : ∃ f fd, u.mg x = some (.ref f) ∧ FunD u.K x qual (defArgs st) (defBody st) (defScope st) dvs [] f fd
def startG (N : List Str) (Ps : List Pr) : List Ty := Ps.map Ty.val ++ List.replicate (N.length - Ps.length) Ty.any
/-- the ends of a def that hands back what ret tells -/
def DRz (Z : Zn) (ret : Pr) : Ends := { nx := fun σ H => ∃ own Γ G, StO { Z with G := G } own Γ σ H ∧ ret.p (hid own H) .non, rt := fun v H => ∃ own Γ σ G, StO { Z with G := G } own Γ σ H ∧ ret.p (hid own H) v }
theorem SP.mono' {X : Cx} {pins : List (Addr × Obj)} {D D' : Ends} {f : Flow} {s' : Shared} (h : SP X pins D f s') (h1 : ∀ σ H, D.nx σ H → D'.nx σ H) (h2 : ∀ v H, D.rt v H → D'.rt v H) (h3 : ∀ σ H, D.bk σ H → D'.bk σ H) (h4 : ∀ σ H, D.ct σ H → D'.ct σ H) : SP X pins D' f s' := by
  cases f with
  | next => obtain ⟨σ', H', I, q⟩ := h; exact ⟨σ', H', I, h1 _ _ q⟩
  | brk => obtain ⟨σ', H', I, q⟩ := h; exact ⟨σ', H', I, h3 _ _ q⟩
  | cont => obtain ⟨σ', H', I, q⟩ := h; exact ⟨σ', H', I, h4 _ _ q⟩
  | ret u => obtain ⟨v, σ', H', I, r, q⟩ := h; exact ⟨v, σ', H', I, r, h2 _ _ q⟩
theorem start_at {Z : Zn} {own : List Addr} {H : Hp} {Ps : List Pr} {vs : List V} (h : All (hid own H) Ps vs) (n : Nat) (i : Nat) (T : Ty) (e : (Ps.map Ty.val ++ List.replicate (n - Ps.length) Ty.any)[i]? = some T) : T.at_ Z own H ((vs.map some ++ List.replicate (n - vs.length) none).getD i none) := by
  by_cases q : i < Ps.length
  · rw [List.getElem?_append_left (by rw [List.length_map]; exact q), List.getElem?_map] at e
    cases z : Ps[i]? with
    | none => rw [z] at e; cases e
    | some P =>
      rw [z] at e
      obtain ⟨v, h1, h2⟩ := h.get z
      cases e
      refine ⟨v, ?_, h2⟩
      rw [List.getD_eq_getElem?_getD, List.getElem?_append_left (by rw [List.length_map, ← h.length]; exact q), List.getElem?_map, h1]
      rfl
  · rw [List.getElem?_append_right (by rw [List.length_map]; omega)] at e
    have := List.mem_of_getElem? e
    obtain rfl := (List.mem_replicate.mp this).2
    trivial
theorem start_ok {own : List Addr} {H : Hp} {vs : List V} (dom : ∀ a ∈ own, Live (H a)) (h : All (hid own H) Ps vs) (hl : Ps.length ≤ N.length) : StO { H0 := H, O := own, M := [] } own (startG N Ps) (L2.start N vs) H where
  dom := dom
  old := fun _ h => h
  new := fun _ h => .inl h
  keep := fun _ _ h _ => h
  at_ := fun i T e => start_at h N.length i T e
  uniq := fun i j l l' C C' p h1 h2 _ _ => by
    have q := List.mem_of_getElem? h1
    rcases List.mem_append.mp q with z | z
    · obtain ⟨P, _, e⟩ := List.mem_map.mp z; cases e
    · have := (List.mem_replicate.mp z).2; cases this
  len := by
    unfold startG L2.start
    rw [List.length_append, List.length_append, List.length_map, List.length_map, List.length_replicate, List.length_replicate, h.length]
  gh := fun _ _ z => nomatch z
  mo := fun _ z => nomatch z
  dO := fun a ha => (dom a ha).1
theorem StO.same {Z : Zn} {own : List Addr} {σ : L2.St} {H : Hp} (g : StO Z own Γ σ H) (hM : Z.M = []) : Same Z.H0 H := fun a o h => g.keep a o h (by rw [hM]; exact List.not_mem_nil)
/-- THE RULE for a def that changes nothing -/
theorem fn_pure {qual : Str} {st : Stmt} {dvs0 dvs : List V} {ps : List Str} {sp : Sp} (Df : Defd u x qual st dvs0) (S : FnScope N ps (defScope st))
    (hb : ∀ f fd, FunD u.K x qual (defArgs st) (defBody st) (defScope st) dvs0 [] f fd → ∃ ds, Binds u.K fd ps ds ∧ Vals dvs ds)
    (h : ∀ vs H Q, sp vs H Q E0 → ∃ Ps ret, Ps.length = ps.length ∧ Pf Ps ret vs H Q ∧ ∀ X Z, Z.M = [] → Good u N (defScope st) k X → (∀ x, X.fn x = true) → Tr X Z (startG N Ps) (defBody st) (DRz Z ret))
    (hE : ∀ vs H Q E, sp vs H Q E → sp vs H Q E0) : Callable u x (k + 1) sp dvs := by
  obtain ⟨f, fd, hm, F⟩ := Df.ex
  obtain ⟨ds, b1, b2⟩ := hb f fd F
  refine ⟨f, fd, ps, ds, hm, F.kp, b1, b2, ?_⟩
  refine FunD.ok F S (fun vs H Q E q => ?_) fun cdv A outer s H vs Q E hr q => ?_
  · obtain ⟨Ps, ret, h1, ⟨own, _, h2, _⟩, _⟩ := h vs H Q (hE _ _ _ _ q)
    rw [← h2.length, h1]
  · obtain ⟨Ps, ret, h1, ⟨own, d, h2, h3⟩, h4⟩ := h vs H Q (hE _ _ _ _ q)
    let X := (cxOf CX0 u.P u.w u.K u.mg u.base N qual (defScope st) f cdv A outer s H E).nox
    have G : Good u N (defScope st) k X := ⟨rfl, rfl, rfl, rfl, hr, rfl, S.nd⟩
    have hl : Ps.length ≤ N.length := by
      have := congrArg List.length S.pre
      rw [List.length_take] at this
      omega
    have T := h4 X { H0 := H, O := own, M := [] } rfl G (fun _ => rfl) own _ H (start_ok d h2 hl)
    refine ⟨tWs X (defBody st), PSs.nox pssW, fun pins s' I => thn (T pins s' I) fun fl s2 z => SP.mono' z (fun σ H' ⟨own', Γ', _, g, r⟩ => ?_) (fun v H' ⟨own', Γ', σ', _, g, r⟩ => ?_) (fun _ _ z => z) (fun _ _ z => z)⟩
    · exact h3 _ H' (g.same rfl) (ret.mono (hid_mono g.old (.refl H')) r)
    · exact h3 v H' (g.same rfl) (ret.mono (hid_mono g.old (.refl H')) r)
/-- return -/
theorem tr_retP {ret : Pr} (he : J X Z Γ e ret) : Tr X Z Γ (.Return (some e) pos :: rest) (DRz Z ret) := tr_ret he fun own σ H v g p => ⟨own, Γ, σ, _, g, p⟩
theorem tr_retB {ret : Pr} {X' : Cx} {rest' : List Stmt} (he : J X Z Γ e ret) : Tr X Z Γ (.Return (some e) pos :: rest) (behind X' rest' (DRz Z ret)) := tr_ret he fun own σ H v g p => ⟨own, Γ, σ, _, g, p⟩
/-- return, out of a loop -/
theorem tr_retL {ret : Pr} {G : Hp} (he : J X { Z with G := G } Γ e ret) (hD : D.rt = (DRz Z ret).rt) : Tr X { Z with G := G } Γ (.Return (some e) pos :: rest) D := tr_ret he fun own σ H v g p => by
  rw [hD]
  exact ⟨own, Γ, σ, G, g, p⟩
end
end Wd

end

section
set_option maxRecDepth 100000
set_option maxHeartbeats 4000000
namespace Wd
open PySem PySem.Spec L2
section
variable {u : Uni} {N : List Str} {sc : Scope} {k : Nat} {X : Cx} {Z : Zn} {Γ : List Ty} {a b c e : Expr} {es : List Expr} {P P1 P2 P3 : Pr} {Ps : List Pr} {pos p : Pos} {x : Str} {D : Ends} {rest A B : List Stmt}

/-! ### built-ins -/
theorem all1 {S : Hp} {vs : List V} (h : All S [P] vs) : ∃ v, vs = [v] ∧ P.p S v := by
  cases h with
  | cons h t => cases t; exact ⟨_, rfl, h⟩
theorem all2 {S : Hp} {vs : List V} (h : All S [P1, P2] vs) : ∃ v w, vs = [v, w] ∧ P1.p S v ∧ P2.p S w := by
  cases h with
  | cons h t => cases t with
    | cons h2 t => cases t; exact ⟨_, _, rfl, h, h2⟩
theorem all_ints {S : Hp} : ∀ {ns : List Int} {vs : List V}, All S (ns.map isI) vs → vs = ns.map V.int
  | [], _, .nil => rfl
  | n :: ns, _, .cons h t => by rw [show _ = V.int n from h, all_ints t]; rfl
theorem all_bools {S : Hp} : ∀ {ns : List Bool} {vs : List V}, All S (ns.map isB) vs → vs = ns.map V.bl
  | [], _, .nil => rfl
  | n :: ns, _, .cons h t => by rw [show _ = V.bl n from h, all_bools t]; rfl
theorem all_strs {S : Hp} : ∀ {ns : List Str} {vs : List V}, All S (ns.map isS) vs → vs = ns.map V.str
  | [], _, .nil => rfl
  | n :: ns, _, .cons h t => by rw [show _ = V.str n from h, all_strs t]; rfl
theorem all_isV {S : Hp} : ∀ {ns vs : List V}, All S (ns.map isV) vs → vs = ns
  | [], _, .nil => rfl
  | n :: ns, _, .cons h t => by rw [show _ = n from h, all_isV t]
theorem cal_lenL {K : PySem.W.Frag} (hK : K = X.K) (h : LstP K P Ps) : CalR X (.builtin "len") [P] (isI (Ps.length : Int)) := ⟨_, call_len_seq, fun own H vs _ q Q k => by
  subst hK
  obtain ⟨v, rfl, h1⟩ := all1 q
  obtain ⟨a, ws, rfl, h2, h3⟩ := h _ _ h1
  exact ⟨a, ws, rfl, .inl (L2.Same.seq hid_sub h2), k _ H (.refl H) (by rw [h3.length]; exact rfl)⟩⟩
theorem cal_lenT {K : PySem.W.Frag} (hK : K = X.K) (h : TupP K P Ps) : CalR X (.builtin "len") [P] (isI (Ps.length : Int)) := ⟨_, call_len_seq, fun own H vs _ q Q k => by
  subst hK
  obtain ⟨v, rfl, h1⟩ := all1 q
  obtain ⟨a, ws, rfl, h2, h3⟩ := h _ _ h1
  exact ⟨a, ws, rfl, .inr (Same.tup hid_sub h2), k _ H (.refl H) (by rw [h3.length]; exact rfl)⟩⟩
theorem cal_lenS {s : Str} (h : s.length ≤ sizeLine) : CalR X (.builtin "len") [isS s] (isI (s.length : Int)) := ⟨_, call_len_str, fun own H vs _ q Q k => by
  obtain ⟨v, rfl, rfl⟩ := all1 q
  exact ⟨s, rfl, h, k _ H (.refl H) rfl⟩⟩
theorem cal_abs {i : Int} : CalR X (.builtin "abs") [isI i] (isI (i.natAbs : Int)) := ⟨_, call_abs, fun own H vs _ q Q k => by
  obtain ⟨v, rfl, rfl⟩ := all1 q
  exact ⟨i, rfl, k _ H (.refl H) (show _ = _ from congrArg V.int (by split <;> omega))⟩⟩
theorem cal_max {i j : Int} (hc : X.calm = true) : CalR X (.builtin "max") [isI i, isI j] (isI (max i j)) := ⟨_, call_max2 hc, fun own H vs _ q Q k => by
  obtain ⟨v, w, rfl, rfl, rfl⟩ := all2 q
  exact ⟨i, j, rfl, k _ H (.refl H) (show _ = _ from congrArg V.int (by split <;> omega))⟩⟩
theorem cal_min {i j : Int} (hc : X.calm = true) : CalR X (.builtin "min") [isI i, isI j] (isI (min i j)) := ⟨_, call_min2 hc, fun own H vs _ q Q k => by
  obtain ⟨v, w, rfl, rfl, rfl⟩ := all2 q
  exact ⟨i, j, rfl, k _ H (.refl H) (show _ = _ from congrArg V.int (by split <;> omega))⟩⟩
theorem cal_intB {d : Bool} : CalR X (.type "int") [isB d] (isI (if d then 1 else 0)) := ⟨_, call_int1, fun own H vs _ q Q k => by
  obtain ⟨v, rfl, rfl⟩ := all1 q
  exact .inr ⟨d, rfl, k _ H (.refl H) rfl⟩⟩
theorem cal_intS {s : Str} {n : Int} (h : PySem.intText? s = some n) (hl : s.length ≤ 640) : CalR X (.type "int") [isS s] (isI n) := ⟨_, call_int_str, fun own H vs _ q Q k => by
  obtain ⟨v, rfl, rfl⟩ := all1 q
  exact ⟨s, n, rfl, h, hl, k _ H (.refl H) rfl⟩⟩
theorem cal_str {i : Int} (h : i.natAbs.log2 < 1920) : CalR X (.type "str") [isI i] (isV (.str (toString i))) := ⟨_, call_str_int, fun own H vs _ q Q k => by
  obtain ⟨v, rfl, rfl⟩ := all1 q
  exact ⟨i, rfl, h, k _ H (.refl H) rfl⟩⟩
theorem cal_sum {K : PySem.W.Frag} (hK : K = X.K) {ns : List Int} (hc : X.calm = true) (h : LstP K P (ns.map isI)) : CalR X (.builtin "sum") [P] (isI ns.sum) := ⟨_, cr_sum hc, fun own H vs _ q Q k => by
  subst hK
  obtain ⟨v, rfl, h1⟩ := all1 q
  obtain ⟨a, ws, rfl, h2, h3⟩ := h _ _ h1
  rw [all_ints h3] at h2
  exact ⟨a, ns, rfl, L2.Same.seq hid_sub h2, k _ H (.refl H) rfl⟩⟩
theorem cal_all {K : PySem.W.Frag} (hK : K = X.K) {ns : List Bool} (hc : X.calm = true) (h : LstP K P (ns.map isB)) : CalR X (.builtin "all") [P] (isB (ns.all id)) := ⟨_, cr_all hc, fun own H vs _ q Q k => by
  subst hK
  obtain ⟨v, rfl, h1⟩ := all1 q
  obtain ⟨a, ws, rfl, h2, h3⟩ := h _ _ h1
  rw [all_bools h3] at h2
  exact ⟨a, ns, rfl, L2.Same.seq hid_sub h2, k _ H (.refl H) rfl⟩⟩
theorem cal_tuple {K : PySem.W.Frag} (hK : K = X.K) (h : LstP K P Ps) : CalR X (.type "tuple") [P] (isT K Ps) := ⟨_, call_tuple_of, fun own H vs dm q Q k => by
  subst hK
  obtain ⟨v, rfl, h1⟩ := all1 q
  obtain ⟨a, ws, rfl, h2, h3⟩ := h _ _ h1
  refine ⟨a, ws, rfl, .inl ⟨L2.Same.seq hid_sub h2, fun l hl => ?_⟩⟩
  have s2 : Same H (upd H l (.tup ws)) := same_new hl
  exact k _ _ s2 ⟨l, ws, rfl, SqT.of ((hid_out fun z => dm l z hl).trans upd_same), h3.mono (hid_grow s2)⟩⟩
/-- a built-in that makes a new object -/
def CalN (X : Cx) (f : Value) (Ps : List Pr) (C : Ct) : Prop := ∃ r, CallR X f r ∧ ∀ (own : List Addr) (H : Hp) (vs : List V), (∀ a ∈ own, H a ≠ none) → All (hid own H) Ps vs → ∀ Q : VK, (∀ p o H', Same H H' → H p = none → H' p = some o → C.c (hid (p :: own) H') o → Q (.ref p) H') → r vs H Q
theorem jn_callT (g : Good u N sc k X) {T : String} {C : Ct} (hm : Free u x) (hv : bootBuiltins x = some (.type T)) (ha : JA X Z Γ (e :: es) Ps) (h : CalN X (.type T) Ps C) (hg : okGl sc x = true)
    (he : starEach (e :: es) X.env = (false, eval e X.env) :: starEach es X.env := by rfl) (hpl : (backTo pos (starEach es X.env)).any (·.1) = false := by rfl) : JN X Z Γ (.Call (.Name x p) (e :: es) [] pos) C := by
  obtain ⟨rfl, rfl, rfl, -, -, -, -⟩ := g
  obtain ⟨r, h1, h2⟩ := h
  obtain ⟨g1, g2, g3⟩ := okGl_gl hg
  obtain ⟨t, a1, a2⟩ := ha
  refine jn_of (pe_callTy h1 g1 hm.ex hv a1 g3 g2 (by assumption) (by assumption)) fun own σ H g Q q => a2 own σ H g _ fun vs H1 s1 p1 => ?_
  exact h2 own H1 vs (g.grow s1).dom' p1 Q fun p o H' s hp ho hc => q p o H' (s1.trans s) (L2.Same.free s1 hp) ho hc
theorem caln_list {K : PySem.W.Frag} (hK : K = X.K) (h : LstP K P Ps) : CalN X (.type "list") [P] (ownL Ps) := ⟨_, call_list_of, fun own H vs dm q Q k => by
  subst hK
  obtain ⟨v, rfl, h1⟩ := all1 q
  obtain ⟨a, ws, rfl, h2, h3⟩ := h _ _ h1
  refine ⟨a, ws, rfl, .inl (L2.Same.seq hid_sub h2), fun l hl => ?_⟩
  have s2 : Same H (upd H l (.lst ws)) := same_new hl
  exact k l _ _ s2 hl upd_same ⟨ws, rfl, h3.mono (hid_new hl s2)⟩⟩
/-- a built-in type's name as a value -/
theorem j_ty (g : Good u N sc k X) {T : String} (hm : Free u x) (hv : bootBuiltins x = some (.type T)) (hg : okGl sc x = true) : J X Z Γ (.Name x pos) (isV (.ty T)) := by
  obtain ⟨rfl, rfl, rfl, -, -, -, -⟩ := g
  obtain ⟨g1, g2, g3⟩ := okGl_gl hg
  exact j_of (pe_bltn (v := .ty T) g1 hm.ex hv rfl g3 g2) fun own _ H _ Q q => q _ H (.refl H) rfl
/-- what type a value has -/
def HasTy (K : PySem.W.Frag) (P : Pr) (t : Value) : Prop := ∀ S v, P.p S v → TyX K S v t
theorem ty_int {K : PySem.W.Frag} {i : Int} : HasTy K (isI i) (.type "int") := fun _ v h => by rw [show v = _ from h]; exact .base (.int i)
theorem ty_bl {K : PySem.W.Frag} {i : Bool} : HasTy K (isB i) (.type "bool") := fun _ v h => by rw [show v = _ from h]; exact .base (.bl i)
theorem ty_str {K : PySem.W.Frag} {i : Str} : HasTy K (isS i) (.type "str") := fun _ v h => by rw [show v = _ from h]; exact .base (.str i)
theorem ty_tup {K : PySem.W.Frag} (h : TupP K P Ps) : HasTy K P (.type "tuple") := fun _ v q => by
  obtain ⟨a, vs, rfl, (h | ⟨o, h⟩) | ⟨o, its, n, h1, h2, _⟩, _⟩ := h _ _ q
  · exact .base (.tup h)
  · exact .fTuple h
  · exact .kTuple h1 h2
theorem ty_lst (h : LstP u.K P Ps) (ht : ∀ S v, P.p S v → ∃ a vs, v = .ref a ∧ S a = some (.lst vs)) : HasTy u.K P (.type "list") := fun _ v q => by
  obtain ⟨a, vs, rfl, h⟩ := ht _ _ q
  exact .base (.lst h)
theorem tyx_grow {K : PySem.W.Frag} {S S' : Hp} {v : V} {t : Value} (s : Same S S') (h : TyX K S v t) : TyX K S' v t := by
  cases h with
  | base h =>
    cases h with
    | non => exact .base .non
    | bl x => exact .base (.bl x)
    | int x => exact .base (.int x)
    | str x => exact .base (.str x)
    | flt x => exact .base (.flt x)
    | lst e => exact .base (.lst (s _ _ e))
    | frz e => exact .base (.frz (s _ _ e))
    | tup e => exact .base (.tup (s _ _ e))
    | dK e => exact .base (.dK (s _ _ e))
    | dT e => exact .base (.dT (s _ _ e))
    | ins e a b c d f => exact .base (.ins (s _ _ e) a b c d f)
  | byt b => exact .byt b
  | set e => exact .set (s _ _ e)
  | kList e c => exact .kList e c
  | kTuple e c => exact .kTuple e c
  | kDict e c => exact .kDict e c
  | fTuple e => exact .fTuple (s _ _ e)
  | fDict e => exact .fDict (s _ _ e)
theorem cal_isi {K : PySem.W.Frag} (hK : K = X.K) {t : Value} {T : String} {d : Bool} (h : HasTy K P t) (hb : PySem.W.kitOne K t (.type T) = some d) : CalR X (.builtin "isinstance") [P, isV (.ty T)] (isB d) := ⟨_, call_isi, fun own H vs _ q Q k => by
  subst hK
  obtain ⟨v, w, rfl, h1, rfl⟩ := all2 q
  exact ⟨v, .ty T, t, .type T, d, rfl, .ty T, tyx_grow hid_sub (h _ _ h1), hb, k _ H (.refl H) rfl⟩⟩
theorem cal_isiC {K : PySem.W.Frag} (hK : K = X.K) {t : Value} {C : Addr} {d : Bool} (h : HasTy K P t) (hb : PySem.W.kitOne K t (.ref C) = some d) : CalR X (.builtin "isinstance") [P, isV (.ref C)] (isB d) := ⟨_, call_isi, fun own H vs _ q Q k => by
  subst hK
  obtain ⟨v, w, rfl, h1, rfl⟩ := all2 q
  exact ⟨v, .ref C, t, .ref C, d, rfl, .own C, tyx_grow hid_sub (h _ _ h1), hb, k _ H (.refl H) rfl⟩⟩

theorem kit_ii {K : PySem.W.Frag} : PySem.W.kitOne K (.type "int") (.type "int") = some true := kit_ty (by decide +kernel)
theorem kit_ib {K : PySem.W.Frag} : PySem.W.kitOne K (.type "int") (.type "bool") = some false := kit_ty (by decide +kernel)
theorem kit_bb {K : PySem.W.Frag} : PySem.W.kitOne K (.type "bool") (.type "bool") = some true := kit_ty (by decide +kernel)
theorem kit_ss {K : PySem.W.Frag} : PySem.W.kitOne K (.type "str") (.type "str") = some true := kit_ty (by decide +kernel)
theorem kit_tt {K : PySem.W.Frag} : PySem.W.kitOne K (.type "tuple") (.type "tuple") = some true := kit_ty (by decide +kernel)
theorem kit_ll {K : PySem.W.Frag} : PySem.W.kitOne K (.type "list") (.type "list") = some true := kit_ty (by decide +kernel)

/-! ### targets -/
def tWG (X : Cx) (tg : Expr) : TG := fun v σ H Q => ∀ pins s w, Inv X pins σ H s → RelV v w → wpAny (model X.prog X.w) X.A (assign tg X.env w) (fun _ s' => ∃ σ' H', Inv X pins σ' H' s' ∧ Q σ' H') X.xe s
theorem pgW {tg : Expr} : PG X tg (tWG X tg) := ⟨fun pins s _ _ _ w _ I r h => h pins s w I r⟩
def setAll (Γ : List Ty) (l : List (Nat × Pr)) : List Ty := l.foldl (fun Γ q => Γ.set q.1 (.val q.2)) Γ
/-- a value of which P holds is stored at the target: the slots of l then hold what l tells -/
structure JG (X : Cx) (Z : Zn) (Γ : List Ty) (tg : Expr) (P : Pr) (l : List (Nat × Pr)) : Prop where
  run : ∀ own σ H v, StO Z own Γ σ H → P.p (hid own H) v → ∀ Q : L2.St → Hp → Prop,
  (∀ σ', StO Z own (setAll Γ l) σ' H → (∀ ws : List Nat, (∀ q ∈ l, q.1 ∈ ws) → wipe σ' ws = wipe σ ws) → Q σ' H) → tWG X tg v σ H Q
instance {X : Cx} {Z : Zn} {Γ : List Ty} {tg : Expr} {P : Pr} {l : List (Nat × Pr)} : CoeFun (JG X Z Γ tg P l) (fun _ => ∀ own σ H v, StO Z own Γ σ H → P.p (hid own H) v → ∀ Q : L2.St → Hp → Prop,
  (∀ σ', StO Z own (setAll Γ l) σ' H → (∀ ws : List Nat, (∀ q ∈ l, q.1 ∈ ws) → wipe σ' ws = wipe σ ws) → Q σ' H) → tWG X tg v σ H Q) := ⟨JG.run⟩
def okOwn (sc : Scope) (x : Str) : Bool := match sc.names.lookup x with | some .local => true | _ => false
theorem okOwn_loc {x : Str} (h : okOwn sc x = true) : sc.names.lookup x = some .local := by
  unfold okOwn at h
  revert h
  cases sc.names.lookup x with
  | none => intro z; cases z
  | some y => cases y <;> intro z <;> first | rfl | cases z
theorem wipe_set {i : Nat} {w : Option V} : ∀ {ws : List Nat} {σ : L2.St}, i ∈ ws → wipe (σ.set i w) ws = wipe σ ws
  | [], _, h => by cases h
  | j :: ws, σ, h => by
    show (wipe (σ.set i w) ws).set j none = (wipe σ ws).set j none
    by_cases q : i ∈ ws
    · rw [wipe_set q]
    · obtain rfl : i = j := (List.mem_cons.mp h).resolve_right q
      have go : ∀ {ws : List Nat} {σ : L2.St}, i ∉ ws → wipe (σ.set i w) ws = (wipe σ ws).set i w := fun {ws σ} => by
        induction ws with
        | nil => intro _; rfl
        | cons m ws ih =>
          intro hm
          show (wipe (σ.set i w) ws).set m none = ((wipe σ ws).set m none).set i w
          rw [ih fun z => hm (List.mem_cons_of_mem _ z), List.set_comm _ _ (fun z => hm (by rw [z]; exact List.mem_cons_self))]
      rw [go q, List.set_set]
theorem jg_name (g : Good u N sc k X) (hf : ∀ x, X.fn x = true) (i : Nat) (hN : N[i]? = some x) (hl : okLoc sc x = true) (hi : Nat.blt i Γ.length = true := by rfl) : JG X Z Γ (.Name x pos) P [(i, P)] := by
  obtain ⟨l1, l2⟩ := g.hf hf hl
  obtain ⟨rfl, rfl, rfl, -, -, -, nd⟩ := g
  refine ⟨fun own σ H v g h Q q pins s w I r => ?_⟩
  refine (pg_name (i := i) nd hN l1 l2).run pins s σ H v w Q I r ?_
  exact q _ (g.set (by rw [Nat.blt_eq] at hi; exact hi) h) fun ws hw => wipe_set (hw (i, P) List.mem_cons_self)
/-- a comprehension's own name -/
theorem jg_own (g : Good u N sc k X) (i : Nat) (hN : N[i]? = some x) (hl : okOwn sc x = true) (hi : Nat.blt i Γ.length = true := by rfl) : JG X Z Γ (.Name x pos) P [(i, P)] := by
  obtain ⟨rfl, rfl, rfl, -, -, -, nd⟩ := g
  have l := okOwn_loc hl
  refine ⟨fun own σ H v g h Q q pins s w I r => ?_⟩
  refine (pg_name (i := i) nd hN (.inl l) (.inr l)).run pins s σ H v w Q I r ?_
  exact q _ (g.set (by rw [Nat.blt_eq] at hi; exact hi) h) fun ws hw => wipe_set (hw (i, P) List.mem_cons_self)
/-- several targets: each item to its own -/
def JGs (X : Cx) (Z : Zn) (Γ : List Ty) (tgs : List Expr) (Ps : List Pr) (l : List (Nat × Pr)) : Prop := ∃ t, PGs X tgs t ∧ ∀ own σ H vs, StO Z own Γ σ H → All (hid own H) Ps vs → ∀ Q : L2.St → Hp → Prop,
  (∀ σ', StO Z own (setAll Γ l) σ' H → (∀ ws : List Nat, (∀ q ∈ l, q.1 ∈ ws) → wipe σ' ws = wipe σ ws) → Q σ' H) → t vs σ H Q
theorem jgs_nil : JGs X Z Γ [] [] [] := ⟨_, pgs_nil, fun own σ H vs g h Q q => by
  cases h
  exact ⟨rfl, q σ g fun _ _ => rfl⟩⟩
theorem jgs_cons {tgs : List Expr} {l1 l2 : List (Nat × Pr)} (h1 : JG X Z Γ a P l1) (h2 : JGs X Z (setAll Γ l1) tgs Ps l2)
    (hs : (assignEach (a :: tgs) X.env).map (·.2) = assign a X.env :: (assignEach tgs X.env).map (·.2)) : JGs X Z Γ (a :: tgs) (P :: Ps) (l1 ++ l2) := by
  obtain ⟨t, p1, p2⟩ := h2
  refine ⟨_, pgs_cons pgW p1 hs, fun own σ H vs g h Q q => ?_⟩
  cases h with
  | cons ha ht =>
    refine ⟨_, _, rfl, h1 own σ H _ g ha _ fun σ1 g1 w1 => p2 own σ1 H _ g1 ht Q fun σ2 g2 w2 => ?_⟩
    refine q σ2 (by unfold setAll at g2 ⊢; rw [List.foldl_append]; exact g2) fun ws hw => ?_
    rw [w2 ws fun z hz => hw z (List.mem_append_right _ hz), w1 ws fun z hz => hw z (List.mem_append_left _ hz)]
theorem jg_tup (g : Good u N sc k X) {tgs : List Expr} {n : Nat} {l : List (Nat × Pr)} (ht : TupP u.K P Ps) (h : JGs X Z Γ tgs Ps l) (hn : (assignEach tgs X.env).length = Ps.length) (hst : (assignEach tgs X.env).findIdx? (·.1) = none) : JG X Z Γ (.Tuple tgs n pos) P l := by
  obtain ⟨rfl, -, -, hc, -, -, -⟩ := g
  obtain ⟨t, p1, p2⟩ := h
  refine ⟨fun own σ H v g h Q q pins s w I r => ?_⟩
  obtain ⟨a, vs, e, h1, h2⟩ := ht _ _ h
  exact (pg_tup hc p1 (hn.trans h2.length) hst).run pins s σ H v w Q I r ⟨a, vs, e, Same.tup hid_sub h1, rfl, p2 own σ H vs g h2 Q q⟩
/-- an assignment to any such target -/
theorem tr_asg {l : List (Nat × Pr)} (he : J X Z Γ e P) (hg : JG X Z Γ a P l) (h : Tr X Z (setAll Γ l) rest D) (hs : swapsWithSole [a] e pos.line X.env = pure false := by rfl) (hw : swappedStores [a] e X.env = pure none := by rfl)
    (h1 : (assignEach [a] X.env).map (·.2) = [assign a X.env] := by rfl) : Tr X Z Γ (.Assign [a] e pos :: rest) D :=
  tr_of (pss_cons (ps_asg peW pgW hs hw h1) pssW) fun own σ H g => he own σ H g _ fun v H1 s1 p1 => hg own σ H1 v (g.grow s1) p1 _ fun σ' g' _ => h own σ' H1 g'
def envS (sc : Scope) : Env := PyProof.Rows.envOfC "" sc 0 0 .none
theorem swapped_env {ts : List Expr} {v : Expr} {env : Env} : swappedStores ts v env = swappedStores ts v (envS env.scope) := rfl
/-- x, y = a, b: two local names -/
theorem tr_par (g : Good u N sc k X) {y : Str} {px py pt pt2 : Pos} {kt k2 : Nat} (i j : Nat) (hi : N[i]? = some x) (hj : N[j]? = some y) (hij : Nat.beq i j = false) (hx : okOwn sc x = true) (hy : okOwn sc y = true)
    (ha : J X Z Γ a P1) (hb : J X Z Γ b P2) (hli : Nat.blt i Γ.length = true) (hlj : Nat.blt j Γ.length = true)
    (hsa : starEach [a, b] X.env = (false, eval a X.env) :: starEach [b] X.env) (hsb : starEach [b] X.env = (false, eval b X.env) :: starEach [] X.env)
    (hw : swappedStores [.Tuple [.Name x px, .Name y py] kt pt] (.Tuple [a, b] k2 pt2) (envS sc) = pure (some [x, y]))
    (hs : swapsWithSole [.Tuple [.Name x px, .Name y py] kt pt] (.Tuple [a, b] k2 pt2) pos.line X.env = pure false) (h : Tr X Z ((Γ.set i (.val P1)).set j (.val P2)) rest D) :
    Tr X Z Γ (.Assign [.Tuple [.Name x px, .Name y py] kt pt] (.Tuple [a, b] k2 pt2) pos :: rest) D := by
  obtain ⟨rfl, rfl, rfl, hc, -, -, nd⟩ := g
  have hij' : i ≠ j := fun z => by subst z; rw [Nat.beq_refl] at hij; cases hij
  rw [← swapped_env] at hw
  refine tr_of (pss_cons (ps_par hc nd hi hj hij' (okOwn_loc hx) (okOwn_loc hy) (pa_cons peW (pa_cons peW pa_nil hsb) hsa) hw hs) pssW) fun own σ H g => ha own σ H g _ fun v H1 s1 p1 => hb own σ H1 (g.grow s1) _ fun w H2 s2 p2 => ?_
  refine ⟨v, w, rfl, ?_⟩
  have g2 := (g.grow (s1.trans s2)).set (i := i) (P := P1) (v := v) (by rw [Nat.blt_eq] at hli; exact hli) (P1.mono (hid_grow s2) p1)
  exact h own _ H2 (g2.set (i := j) (by rw [List.length_set]; rw [Nat.blt_eq] at hlj; exact hlj) p2)

/-! ### what is walked -/
/-- what the turns give: the i-th thing is told by the i-th predicate; G: what stood still when the walk began -/
def SrcOk (T : It) (Ps : List Pr) (G : Hp) : Prop := (∀ (i : Nat) (P : Pr), Ps[i]? = some P → ∀ own H, Same G (hid own H) → (∀ a ∈ own, H a ≠ none) → T.go i H ∧ ∀ v H', T.yld i H v H' → Same H H' ∧ P.p (hid own H') v) ∧ ∀ own H, Same G (hid own H) → T.stop Ps.length H
def JI (X : Cx) (Z : Zn) (Γ : List Ty) (tg iter : Expr) (Ps : List Pr) : Prop := ∃ wi, PI X tg iter wi ∧ ∀ own σ H, StO Z own Γ σ H → ∀ R : It → Hp → Prop, (∀ T H1, Same H H1 → SrcOk T Ps (hid own H1) → R T H1) → wi σ H R
theorem ji_list (g : Good u N sc k X) {tg : Expr} (he : J X Z Γ e P) (ht : LstP u.K P Ps) : JI X Z Γ tg e Ps := by
  obtain ⟨rfl, -, -, -, -, -, -⟩ := g
  refine ⟨_, pi_list peW, fun own σ H g R r => he own σ H g _ fun v H1 s1 p1 => ?_⟩
  obtain ⟨a, vs, e, h1, h2⟩ := ht _ _ p1
  refine ⟨a, e, ⟨vs, L2.Same.seq hid_sub h1⟩, r _ H1 s1 ⟨fun i P hi own' H' s' dm => ?_, fun own' H' s' => ?_⟩⟩
  · obtain ⟨v, e1, e2⟩ := h2.get hi
    have h3 : SqL X.K H' a vs := L2.Same.seq hid_sub (L2.Same.seq s' h1)
    refine ⟨⟨vs, v, h3, e1⟩, fun v' H'' y => ?_⟩
    obtain ⟨rfl, y⟩ := y
    obtain rfl : v = v' := Option.some.inj (e1.symm.trans (y vs h3))
    exact ⟨.refl _, P.mono s' e2⟩
  · exact ⟨vs, L2.Same.seq hid_sub (L2.Same.seq s' h1), by rw [h2.length]; exact Nat.le_refl _⟩
theorem ji_tup (g : Good u N sc k X) {tg : Expr} (he : J X Z Γ e P) (ht : TupP u.K P Ps) : JI X Z Γ tg e Ps := by
  obtain ⟨rfl, -, -, -, -, -, -⟩ := g
  refine ⟨_, pi_tup peW, fun own σ H g R r => he own σ H g _ fun v H1 s1 p1 => ?_⟩
  obtain ⟨a, vs, e, h1, h2⟩ := ht _ _ p1
  refine ⟨a, e, ⟨vs, Same.tup hid_sub h1⟩, r _ H1 s1 ⟨fun i P hi own' H' s' dm => ?_, fun own' H' s' => ?_⟩⟩
  · obtain ⟨v, e1, e2⟩ := h2.get hi
    have h3 : SqT X.K H' a vs := Same.tup hid_sub (Same.tup s' h1)
    refine ⟨⟨vs, v, h3, e1⟩, fun v' H'' y => ?_⟩
    obtain ⟨rfl, y⟩ := y
    obtain rfl : v = v' := Option.some.inj (e1.symm.trans (y vs h3))
    exact ⟨.refl _, P.mono s' e2⟩
  · exact ⟨vs, Same.tup hid_sub (Same.tup s' h1), by rw [h2.length]; exact Nat.le_refl _⟩
def rangeP (lo : Int) (n : Nat) : List Pr := (List.range n).map fun (i : Nat) => isI (lo + (i : Int))
theorem rangeP_get {lo : Int} {n i : Nat} {P : Pr} (h : (rangeP lo n)[i]? = some P) : i < n ∧ P = isI (lo + i) := by
  unfold rangeP at h
  rw [List.getElem?_map] at h
  by_cases q : i < n
  · rw [List.getElem?_range q] at h
    exact ⟨q, (Option.some.inj h).symm⟩
  · rw [List.getElem?_eq_none (by rw [List.length_range]; omega)] at h
    cases h
theorem rangeP_len {lo : Int} {n : Nat} : (rangeP lo n).length = n := by
  unfold rangeP
  rw [List.length_map, List.length_range]
theorem src_range {G : Hp} (lo : Int) (n : Nat) : SrcOk (Itr lo n) (rangeP lo n) G := by
  refine ⟨fun i P hi own H _ _ => ?_, fun own H _ => ?_⟩
  · obtain ⟨q, rfl⟩ := rangeP_get hi
    exact ⟨q, fun v H' y => by obtain ⟨rfl, rfl⟩ := y; exact ⟨.refl _, rfl⟩⟩
  · show n ≤ (rangeP lo n).length
    rw [rangeP_len]
    exact Nat.le_refl _
theorem ji_range1 (g : Good u N sc k X) {tg : Expr} {n : Nat} (hf : Free u "range") (hg : okGl sc "range" = true) (he : J X Z Γ e (isI (n : Int))) (hn : n ≤ 1000000) (hs : starEach [e] X.env = [(false, eval e X.env)]) : JI X Z Γ tg (.Call (.Name "range" p) [e] [] pos) (rangeP 0 n) := by
  obtain ⟨rfl, rfl, rfl, -, -, -, -⟩ := g
  refine ⟨_, pi_range1 (okGl_gl hg).1 hf.ex (pa_cons peW pa_nil hs) hs, fun own σ H g R r => he own σ H g _ fun v H1 s1 p1 => ?_⟩
  exact ⟨n, by rw [show v = _ from p1], by omega, by omega, r _ H1 s1 (src_range 0 n)⟩
theorem ji_range2 (g : Good u N sc k X) {tg : Expr} {lo hi : Int} (hf : Free u "range") (hg : okGl sc "range" = true) (ha : J X Z Γ a (isI lo)) (hb : J X Z Γ b (isI hi)) (h1 : -1000000 ≤ lo) (h2 : hi ≤ 1000000) (h3 : lo ≤ 1000000) (h4 : -1000000 ≤ hi)
    (hs : starEach [a, b] X.env = [(false, eval a X.env), (false, eval b X.env)]) (hs2 : starEach [b] X.env = [(false, eval b X.env)]) : JI X Z Γ tg (.Call (.Name "range" p) [a, b] [] pos) (rangeP lo (hi - lo).toNat) := by
  obtain ⟨rfl, rfl, rfl, -, -, -, -⟩ := g
  refine ⟨_, pi_range2 (okGl_gl hg).1 hf.ex (pa_cons peW (pa_cons peW pa_nil hs2) (by rw [hs, hs2])) hs hs2, fun own σ H g R r => ha own σ H g _ fun v H1 s1 p1 => hb own σ H1 (g.grow s1) _ fun w H2 s2 p2 => ?_⟩
  exact ⟨lo, hi, by rw [show v = _ from p1, show w = _ from p2], ⟨by omega, by omega, by omega, by omega⟩, r _ H2 (s1.trans s2) (src_range lo _)⟩

/-! ### for -/
/-- I: the contexts that may be at turn i -/
theorem tr_for (g : Good u N sc k X) {tg iter : Expr} {body : List Stmt} (hi : JI X Z Γ tg iter Ps) (I : Nat → List Ty → Prop) (h0 : I 0 Γ)
    (hs : ∀ (i : Nat) (P : Pr) (Γ' : List Ty) (G : Hp), Ps[i]? = some P → I i Γ' → ∃ l, JG X { Z with G := G } Γ' tg P l ∧
      Tr X { Z with G := G } (setAll Γ' l) body { D with nx := fun σ H => ∃ Γ own, I (i + 1) Γ ∧ StO { Z with G := G } own Γ σ H, ct := fun σ H => ∃ Γ own, I (i + 1) Γ ∧ StO { Z with G := G } own Γ σ H, bk := tWs X rest D })
    (hd : ∀ Γ', I Ps.length Γ' → Tr X Z Γ' rest D) (hf : ∀ x, foldedSetIterable iter X.env x = pure x := by intro _; rfl) : Tr X Z Γ (.For tg iter body [] pos :: rest) D := by
  obtain ⟨rfl, -, -, hc, -, hx, -⟩ := g
  obtain ⟨wi, p1, p2⟩ := hi
  refine tr_of (pss_cons (ps_for (by rw [hx]; exact PassesOwn.never) hc p1 pgW pssW hf) pssW) fun own σ H g => p2 own σ H g _ fun T H1 s1 src => ?_
  have gG := (g.grow s1).more
  have less : ∀ {own' Γ' σ' H'}, StO { Z with G := hid own H1 } own' Γ' σ' H' → StO Z own' Γ' σ' H' := fun g' => g'.less (G := Z.G) (g.grow s1).gh
  refine ⟨fun i m σ H => m = Ps.length - i ∧ i ≤ Ps.length ∧ ∃ Γ' own', I i Γ' ∧ StO { Z with G := hid own H1 } own' Γ' σ H, ⟨Ps.length, by simp, Nat.zero_le _, Γ, own, h0, gG⟩, ?_⟩
  rintro i m σ' H' ⟨rfl, hi, Γ', own', hI, g'⟩
  by_cases hlt : i < Ps.length
  · obtain ⟨go, yl⟩ := src.1 i Ps[i] (by rw [List.getElem?_eq_getElem hlt]) own' H' g'.gh g'.dom'
    refine .inr ⟨go, fun σ H => ∃ Γ own_, I (i + 1) Γ ∧ StO { Z with G := hid own H1 } own_ Γ σ H, fun σ2 H2 ⟨Γ2, own2, h2, g2⟩ => ⟨Ps.length - (i + 1), by omega, rfl, hlt, Γ2, own2, h2, g2⟩, fun v H2 y => ?_⟩
    obtain ⟨s2, pv⟩ := yl v H2 y
    obtain ⟨l, jg, tb⟩ := hs i Ps[i] Γ' (hid own H1) (by rw [List.getElem?_eq_getElem hlt]) hI
    exact jg own' σ' H2 v (g'.grow s2) pv _ fun σ3 g3 _ => tb own' σ3 H2 g3
  · obtain rfl : i = Ps.length := by omega
    exact .inl ⟨src.2 own' H' g'.gh, hd Γ' hI own' σ' H' (less g')⟩
/-- the end of a turn -/
theorem tr_turn {I : List Ty → Prop} {Γ' : List Ty} {D' : Ends} (hD : D'.nx = fun σ H => ∃ Γ own, I Γ ∧ StO Z own Γ σ H) (hs : Sub Γ Γ') (h : I Γ') : Tr X Z Γ [] D' := tr_nil fun own σ H g => by
  rw [hD]
  exact ⟨Γ', own, h, g.sub hs⟩

/-! ### while -/
theorem tr_while (g : Good u N sc k X) {body : List Stmt} (I : List Ty → Prop) (μ : List Ty → Nat → Prop) (h0 : I Γ) (hm0 : ∃ m, μ Γ m)
    (hs : ∀ Γ', I Γ' → ∃ d, JT X Z Γ' c d ∧ (d = true → ∀ m, μ Γ' m → Tr X Z Γ' body { D with nx := fun σ H => ∃ Γ own, (I Γ ∧ ∃ m', m' < m ∧ μ Γ m') ∧ StO Z own Γ σ H, ct := fun σ H => ∃ Γ own, (I Γ ∧ ∃ m', m' < m ∧ μ Γ m') ∧ StO Z own Γ σ H, bk := tWs X rest D }) ∧ (d = false → Tr X Z Γ' rest D)) :
    Tr X Z Γ (.While c body [] pos :: rest) D := by
  obtain ⟨rfl, -, -, hc, -, hx, -⟩ := g
  refine tr_of (pss_cons (ps_while (by rw [hx]; exact PassesOwn.never) ptW pssW) pssW) fun own σ H g => ?_
  obtain ⟨m0, hm0⟩ := hm0
  refine ⟨fun m σ H => ∃ Γ' own', (I Γ' ∧ μ Γ' m) ∧ StO Z own' Γ' σ H, ⟨m0, Γ, own, ⟨h0, hm0⟩, g⟩, ?_⟩
  rintro m σ' H' ⟨Γ', own', ⟨hI, hμ⟩, g'⟩
  obtain ⟨d, jt, ht, hf⟩ := hs Γ' hI
  refine jt own' σ' H' g' _ fun H2 s2 => ?_
  cases d with
  | true =>
    refine ⟨fun σ H => ∃ Γ own, (I Γ ∧ ∃ m', m' < m ∧ μ Γ m') ∧ StO Z own Γ σ H, fun σ3 H3 ⟨Γ3, own3, ⟨h3, m', hm, hμ'⟩, g3⟩ => ⟨m', hm, Γ3, own3, ⟨h3, hμ'⟩, g3⟩, ?_⟩
    exact ht rfl m hμ own' σ' H2 (g'.grow s2)
  | false => exact hf rfl own' σ' H2 (g'.grow s2)
end
end Wd

end

section
set_option maxRecDepth 100000
set_option maxHeartbeats 4000000
namespace Wd
open PySem PySem.Spec L2
section
variable {u : Uni} {N : List Str} {sc : Scope} {k : Nat} {X : Cx} {Z : Zn} {Γ : List Ty} {a b c e elt tg iter : Expr} {es : List Expr} {P P1 P2 P3 : Pr} {Ps : List Pr} {pos p : Pos} {x : Str} {D : Ends} {rest A B : List Stmt}

/-! ### list comprehensions -/
def wipeG (Γ : List Ty) : List Nat → List Ty
  | [] => Γ
  | v :: vs => (wipeG Γ vs).set v .any
theorem StO.unset {own : List Addr} {σ : L2.St} {H : Hp} (g : StO Z own Γ σ H) (i : Nat) : StO Z own (Γ.set i .any) (σ.set i none) H := by
  refine ⟨g.dom, g.old, g.new, g.keep, fun j T e => ?_, fun a b l l' C C' p ha hb e1 e2 => ?_, by rw [List.length_set, List.length_set]; exact g.len, g.gh, g.mo, g.dO⟩
  · rw [getD_set]
    rcases getE_set e with ⟨_, q⟩ | ⟨n, q⟩
    · subst q; trivial
    · rw [if_neg (fun z => n z.1)]
      exact g.at_ j T q
  · rcases getE_set ha with ⟨_, q⟩ | ⟨na, q⟩
    · cases q
    · rcases getE_set hb with ⟨_, q'⟩ | ⟨nb, q'⟩
      · cases q'
      · rw [getD_set, if_neg (fun z => na z.1)] at e1
        rw [getD_set, if_neg (fun z => nb z.1)] at e2
        exact g.uniq a b l l' C C' p q q' e1 e2
theorem StO.wiped {own : List Addr} {σ : L2.St} {H : Hp} (g : StO Z own Γ σ H) : ∀ vs : List Nat, StO Z own (wipeG Γ vs) (wipe σ vs) H
  | [] => g
  | v :: vs => (StO.wiped g vs).unset v
/-- a block of X -/
def BlkX (X : Cx) (scope : Scope) (X' : Cx) : Prop := ∃ (s : Shared) (H : Hp) (C : Addr) (cl : List (Str × Addr)) (fp : List Addr), X' = X.blk s H scope (compEnvC scope cl C X.env) fp
/-- the names as the block sees them -/
def relS (sc scope : Scope) : Scope := { scope with names := scope.names.map fun q => if (q.2 == .free && sc.kind == .function && sc.names.lookup q.1 == some .cell) = true then (q.1, .cell) else q }
theorem BlkX.good {scope : Scope} {X' : Cx} (g : Good u N sc k X) (b : BlkX X scope X') : Good u N (relS sc scope) k X' := by
  obtain ⟨s, H, C, cl, fp, rfl⟩ := b
  obtain ⟨rfl, rfl, rfl, hc, hr, hx, nd⟩ := g
  have e : relS X.env.scope scope = relabel scope X.env := rfl
  exact ⟨rfl, rfl, e, hc, hr, rfl, nd⟩
theorem wipe_wipe : ∀ {vs ws : List Nat} {σ : L2.St}, (∀ i ∈ vs, i ∈ ws) → wipe (wipe σ vs) ws = wipe σ ws
  | [], _, _, _ => rfl
  | v :: vs, ws, σ, h => by
    show wipe ((wipe σ vs).set v none) ws = wipe σ ws
    rw [wipe_set (h v List.mem_cons_self), wipe_wipe fun i hi => h i (List.mem_cons_of_mem _ hi)]
theorem filterMap_get {α β : Type} (f : α → Option β) (l : List α) (i : Nat) (x : α) (h : l[i]? = some x) : (l.take (i + 1)).filterMap f = (l.take i).filterMap f ++ (match f x with | some y => [y] | none => []) := by
  have e : l.take (i + 1) = l.take i ++ [x] := by
    rw [List.take_add_one, h]; rfl
  rw [e, List.filterMap_append]
  congr 1
  cases q : f x <;> simp [List.filterMap, q]
theorem filterMap_some {α β : Type} (B : α → β) : ∀ xs : List α, xs.map B = xs.filterMap fun x => some (B x)
  | [] => rfl
  | x :: xs => by
    show B x :: xs.map B = B x :: xs.filterMap _
    rw [filterMap_some B xs]
theorem filterMap_if {α β : Type} (d : α → Bool) (B : α → β) : ∀ xs : List α, (xs.filter d).map B = xs.filterMap fun x => if d x = true then some (B x) else none
  | [] => rfl
  | x :: xs => by
    cases h : d x with
    | true => rw [List.filter_cons_of_pos h, List.map_cons, List.filterMap_cons_some (by rw [h]; rfl), filterMap_if d B xs]
    | false => rw [List.filter_cons_of_neg (by rw [h]; decide), List.filterMap_cons_none (by rw [h]; rfl), filterMap_if d B xs]
/-- a comprehension: as a value, or (name = [..], on one line) stored while its own names are still there -/
structure JLC (X : Cx) (Z : Zn) (Γ : List Ty) (e : Expr) (C : Ct) : Prop where
  ex : ∃ t : TE, PE X e t ∧ (∀ (i : Nat) (y : Str) (py spos : Pos), X.N[i]? = some y → X.env.scope.names.lookup y = some .local → swapsWith e (some (.Name y py)) spos.line X.env = pure true → PS X (.Assign [.Name y py] e spos) (tAsg t (gName i))) ∧
    ∀ own σ H, StO Z own Γ σ H → ∀ Q : VK, (∀ p o H', Same H H' → H p = none → H' p = some o → C.c (hid (p :: own) H') o → Q (.ref p) H') → t σ H Q
theorem JLC.jn {C : Ct} (h : JLC X Z Γ e C) : JN X Z Γ e C := let ⟨_, h1, _, h3⟩ := h.ex; jn_of h1 h3
theorem jl_lc {α : Type} (g : Good u N sc k X) {scope : Scope} {ifs : List Expr} {xs : List α} {A : α → Pr} {R : α → Option Pr} (ow : List (Str × Nat)) (hi : JI X Z Γ tg iter (xs.map A)) (ok : blkC N sc scope ow = true) (hl : xs.length ≤ 1000)
    (tt : TT) (htt : ∀ X', BlkX X scope X' → PTs X' ifs tt) (Rs : List Pr) (hRs : Rs = xs.filterMap R)
    (hs : ∀ x ∈ xs, ∃ (l : List (Nat × Pr)) (d : Bool), (∀ q ∈ l, q.1 ∈ ow.map (·.2)) ∧ (d = true → ∃ r, R x = some r) ∧ (d = false → R x = none) ∧ ∀ G,
      (∀ own σ H, StO { Z with G := G } own (setAll (wipeG Γ (ow.map (·.2))) l) σ H → ∀ Q : Bool → Hp → Prop, (∀ H', Same H H' → Q d H') → tt σ H Q) ∧
      ∀ X', BlkX X scope X' → Good u N (relS sc scope) k X' → JG X' { Z with G := G } (wipeG Γ (ow.map (·.2))) tg (A x) l ∧ ∀ r, R x = some r → J X' { Z with G := G } (setAll (wipeG Γ (ow.map (·.2))) l) elt r)
    (hfs : ∀ x, foldedSetIterable iter X.env x = pure x := by intro _; rfl) :
    JLC X Z Γ (.ListComp elt [⟨tg, iter, ifs, 0⟩] scope pos) (ownL Rs) := by
  subst hRs
  have good : ∀ X', BlkX X scope X' → Good u N (relS sc scope) k X' := fun X' b => b.good g
  obtain ⟨rfl, rfl, rfl, hc, hr, hx, nd⟩ := g
  obtain ⟨wi, p1, p2⟩ := hi
  let gt : TG := fun v σ H Q => ∀ X', BlkX X scope X' → tWG X' tg v σ H Q
  let te : TE := fun σ H Q => ∀ X', BlkX X scope X' → tW X' elt σ H Q
  have hgt : ∀ (s : Shared) (H : Hp) (C : Addr) (cl : List (Str × Addr)) (fp : List Addr), PG (X.blk s H scope (compEnvC scope cl C X.env) fp) tg gt := fun s H C cl fp => ⟨fun pins s' σ H' v w Q I r h => h _ ⟨s, H, C, cl, fp, rfl⟩ pins s' w I r⟩
  have hht : ∀ (s : Shared) (H : Hp) (C : Addr) (cl : List (Str × Addr)) (fp : List Addr), PTs (X.blk s H scope (compEnvC scope cl C X.env) fp) ifs tt := fun s H C cl fp => htt _ ⟨s, H, C, cl, fp, rfl⟩
  have hte : ∀ (s : Shared) (H : Hp) (C : Addr) (cl : List (Str × Addr)) (fp : List Addr), PE (X.blk s H scope (compEnvC scope cl C X.env) fp) elt te := fun s H C cl fp => ⟨fun pins s' σ H' Q I h => h _ ⟨s, H, C, cl, fp, rfl⟩ pins s' I⟩
  refine ⟨_, pe_lc (own := ow) (g := gt) (tt := tt) (te := te) hc nd p1 (blkOk_by ok) hgt hht hte hfs,
    fun i y py spos hy hyl hsw => ps_setLc (own := ow) (g := gt) (tt := tt) (te := te) hc nd hy hyl hsw p1 (blkOk_by ok) hgt hht hte hfs, fun own σ H g Q q => p2 own σ H g _ fun T H1 s1 src => ?_⟩
  intro Dd hD
  have hD0 : H Dd = none := L2.Same.free s1 hD
  have g1 := g.grow s1
  have hnew : ∀ {H'}, Same H1 H' → H' Dd = some (.lst []) → StO { Z with G := hid own H1 } (Dd :: own) (wipeG Γ (ow.map (·.2))) (wipe σ (ow.map (·.2))) H' := fun s h => (g1.more.wiped _).owned hD s h (fun vs z => nomatch z)
  have z0 : Z.H0 Dd = none := g.fresh hD0
  -- what holds of no slot: the new list
  have ns : ∀ (i : Nat) (b : Bool) (C : Ct), (wipeG Γ (ow.map (·.2)))[i]? = some (.own b C) → (wipe σ (ow.map (·.2))).getD i none ≠ some (.ref Dd) := fun i b C e z => by
    obtain ⟨p', o', f1, k1, _⟩ := (g1.wiped (ow.map (·.2))).at_ i _ e
    rw [z] at f1
    cases f1
    exact (g1.dom Dd k1).1 hD
  refine ⟨fun i m H' => m = xs.length - i ∧ i ≤ xs.length ∧ Same H H' ∧ StO { Z with G := hid own H1 } (Dd :: own) (wipeG Γ (ow.map (·.2))) (wipe σ (ow.map (·.2))) H' ∧ ∃ acc, H' Dd = some (.lst acc) ∧ All (hid (Dd :: own) H') ((xs.take i).filterMap R) acc,
    ⟨xs.length, by simp, Nat.zero_le _, s1.trans (same_new hD), hnew (same_new hD) upd_same, [], upd_same, .nil⟩, ?_⟩
  rintro i m H' ⟨rfl, hi, sH, g', acc, hacc, hall⟩
  by_cases hlt : i < xs.length
  · have hx : xs[i]? = some xs[i] := by rw [List.getElem?_eq_getElem hlt]
    obtain ⟨go, yl⟩ := src.1 i (A xs[i]) (by rw [List.getElem?_map, hx]; rfl) (Dd :: own) H' g'.gh g'.dom'
    have tk := filterMap_get R xs i xs[i] hx
    refine .inr ⟨go, fun H2 => Same H H2 ∧ StO { Z with G := hid own H1 } (Dd :: own) (wipeG Γ (ow.map (·.2))) (wipe σ (ow.map (·.2))) H2 ∧ ∃ acc, H2 Dd = some (.lst acc) ∧ All (hid (Dd :: own) H2) ((xs.take (i + 1)).filterMap R) acc,
      fun H2 ⟨y1, y2, y3⟩ => ⟨xs.length - (i + 1), by omega, rfl, hlt, y1, y2, y3⟩, fun v H2 y => ?_⟩
    obtain ⟨s2, pv⟩ := yl v H2 y
    obtain ⟨l, d, hsub, ht, hf, hG⟩ := hs xs[i] (List.getElem_mem hlt)
    obtain ⟨ev, hX⟩ := hG (hid own H1)
    intro X' bX
    refine (hX X' bX (good X' bX)).1 (Dd :: own) _ H2 v (g'.grow s2) pv _ fun σ3 g3 w3 => ?_
    refine ⟨(w3 _ hsub).trans (wipe_wipe fun _ h => h), ?_⟩
    refine ev (Dd :: own) σ3 H2 g3 _ fun H3 s3 => ?_
    have h3 : H3 Dd = some (.lst acc) := s3 _ _ (s2 _ _ hacc)
    have w3' : ∀ {H4}, Same H3 H4 → StO { Z with G := hid own H1 } (Dd :: own) (wipeG Γ (ow.map (·.2))) (wipe σ (ow.map (·.2))) H4 := fun s4 => g'.grow ((s2.trans s3).trans s4)
    cases d with
    | true =>
      obtain ⟨r, er⟩ := ht rfl
      refine iteT fun X'' bX'' => ?_
      refine (hX X'' bX'' (good X'' bX'')).2 r er (Dd :: own) σ3 H3 (g3.grow s3) _ fun y H4 s4 p4 => ?_
      rw [er] at tk
      have h4 : H4 Dd = some (.lst acc) := s4 _ _ h3
      have hh : hid (Dd :: own) (upd H4 Dd (.lst (acc ++ [y]))) = hid (Dd :: own) H4 := hid_upd List.mem_cons_self
      have hlen : acc.length < sizeLine := by
        have := hall.length
        have h1 := List.length_filterMap_le R (xs.take i)
        rw [List.length_take] at h1
        exact small1000 (by omega)
      refine ⟨acc, h4, hlen, fun c o e => ?_, (w3' s4).writeX (fun vs z => nomatch z) List.mem_cons_self z0 ns, acc ++ [y], upd_same, ?_⟩
      · rw [upd_ne (ne_of_none e hD0)]
        exact s4 _ _ (s3 _ _ (s2 _ _ (sH _ _ e)))
      · rw [hh, tk]
        exact (hall.mono (hid_grow ((s2.trans s3).trans s4))).append (.cons p4 .nil)
    | false =>
      have e := hf rfl
      rw [e, List.append_nil] at tk
      exact iteF ⟨sH.trans (s2.trans s3), w3' (.refl H3), acc, h3, by rw [tk]; exact hall.mono (hid_grow (s2.trans s3))⟩
  · obtain rfl : i = xs.length := by omega
    refine .inl ⟨by have := src.2 (Dd :: own) H' g'.gh; rw [List.length_map] at this; exact this, ?_⟩
    rw [List.take_length] at hall
    exact q Dd _ H' sH hD0 hacc ⟨acc, rfl, hall⟩
/-- [elt for target in iter], item by item -/
theorem jl_map {α : Type} (g : Good u N sc k X) {scope : Scope} {xs : List α} {A B : α → Pr} (ow : List (Str × Nat)) (hi : JI X Z Γ tg iter (xs.map A)) (ok : blkC N sc scope ow = true) (hl : xs.length ≤ 1000)
    (l : α → List (Nat × Pr)) (hsub : ∀ x ∈ xs, ∀ q ∈ l x, q.1 ∈ ow.map (·.2))
    (hs : ∀ x ∈ xs, ∀ G X', Good u N (relS sc scope) k X' → JG X' { Z with G := G } (wipeG Γ (ow.map (·.2))) tg (A x) (l x) ∧ J X' { Z with G := G } (setAll (wipeG Γ (ow.map (·.2))) (l x)) elt (B x))
    (hfs : ∀ x, foldedSetIterable iter X.env x = pure x := by intro _; rfl) : JLC X Z Γ (.ListComp elt [⟨tg, iter, [], 0⟩] scope pos) (ownL (xs.map B)) :=
  jl_lc (R := fun x => some (B x)) g ow hi ok hl tYes (fun _ _ => pts_nil) _ (filterMap_some B xs) (fun x hx => ⟨l x, true, hsub x hx, fun _ => ⟨_, rfl⟩, fun z => (nomatch z), fun G => ⟨fun own σ H g Q q => q H (.refl H), fun X' b g' => ⟨(hs x hx G X' g').1, fun r e => by cases e; exact (hs x hx G X' g').2⟩⟩⟩) hfs
/-- [elt for target in iter if c] -/
theorem jl_filt {α : Type} (g : Good u N sc k X) {scope : Scope} {xs : List α} {A B : α → Pr} (d : α → Bool) (ow : List (Str × Nat)) (hi : JI X Z Γ tg iter (xs.map A)) (ok : blkC N sc scope ow = true) (hl : xs.length ≤ 1000)
    (l : α → List (Nat × Pr)) (hsub : ∀ x ∈ xs, ∀ q ∈ l x, q.1 ∈ ow.map (·.2))
    (hs : ∀ x ∈ xs, ∀ G X', Good u N (relS sc scope) k X' → JG X' { Z with G := G } (wipeG Γ (ow.map (·.2))) tg (A x) (l x) ∧ JT X' { Z with G := G } (setAll (wipeG Γ (ow.map (·.2))) (l x)) c (d x) ∧
      (d x = true → J X' { Z with G := G } (setAll (wipeG Γ (ow.map (·.2))) (l x)) elt (B x)))
    (hfs : ∀ x, foldedSetIterable iter X.env x = pure x := by intro _; rfl) : JLC X Z Γ (.ListComp elt [⟨tg, iter, [c], 0⟩] scope pos) (ownL ((xs.filter d).map B)) :=
  jl_lc (R := fun x => if d x = true then some (B x) else none) g ow hi ok hl (fun σ H Q => ∀ X', BlkX X scope X' → tWT X' c σ H Q) (fun X' b => pts_one ⟨fun pins s σ H Q I h => h X' b pins s I⟩) _ (filterMap_if d B xs) (fun x hx => ⟨l x, d x, hsub x hx, fun z => ⟨B x, by rw [z]; rfl⟩, fun z => by rw [z]; rfl, fun G => ⟨fun own σ H g' Q q X' b => (hs x hx G X' (b.good g)).2.1 own σ H g' Q q, fun X' b g' => ⟨(hs x hx G X' g').1, fun r e => by
      cases z : d x with
      | true => rw [z] at e; cases e; exact (hs x hx G X' g').2.2 z
      | false => rw [z] at e; cases e⟩⟩⟩) hfs
theorem jn_map {α : Type} (g : Good u N sc k X) {scope : Scope} {xs : List α} {A B : α → Pr} (ow : List (Str × Nat)) (hi : JI X Z Γ tg iter (xs.map A)) (ok : blkC N sc scope ow = true) (hl : xs.length ≤ 1000)
    (l : α → List (Nat × Pr)) (hsub : ∀ x ∈ xs, ∀ q ∈ l x, q.1 ∈ ow.map (·.2))
    (hs : ∀ x ∈ xs, ∀ G X', Good u N (relS sc scope) k X' → JG X' { Z with G := G } (wipeG Γ (ow.map (·.2))) tg (A x) (l x) ∧ J X' { Z with G := G } (setAll (wipeG Γ (ow.map (·.2))) (l x)) elt (B x))
    (hfs : ∀ x, foldedSetIterable iter X.env x = pure x := by intro _; rfl) : JN X Z Γ (.ListComp elt [⟨tg, iter, [], 0⟩] scope pos) (ownL (xs.map B)) := (jl_map g ow hi ok hl l hsub hs hfs).jn
theorem jn_filt {α : Type} (g : Good u N sc k X) {scope : Scope} {xs : List α} {A B : α → Pr} (d : α → Bool) (ow : List (Str × Nat)) (hi : JI X Z Γ tg iter (xs.map A)) (ok : blkC N sc scope ow = true) (hl : xs.length ≤ 1000)
    (l : α → List (Nat × Pr)) (hsub : ∀ x ∈ xs, ∀ q ∈ l x, q.1 ∈ ow.map (·.2))
    (hs : ∀ x ∈ xs, ∀ G X', Good u N (relS sc scope) k X' → JG X' { Z with G := G } (wipeG Γ (ow.map (·.2))) tg (A x) (l x) ∧ JT X' { Z with G := G } (setAll (wipeG Γ (ow.map (·.2))) (l x)) c (d x) ∧
      (d x = true → J X' { Z with G := G } (setAll (wipeG Γ (ow.map (·.2))) (l x)) elt (B x)))
    (hfs : ∀ x, foldedSetIterable iter X.env x = pure x := by intro _; rfl) : JN X Z Γ (.ListComp elt [⟨tg, iter, [c], 0⟩] scope pos) (ownL ((xs.filter d).map B)) := (jl_filt g d ow hi ok hl l hsub hs hfs).jn
/-- name = [..] -/
theorem tr_setC (g : Good u N sc k X) {C : Ct} {i : Nat} {gs : List Comprehension} {scope : Scope} (he : JLC X Z Γ (.ListComp elt gs scope pos) C) (hN : N[i]? = some x) (hl : okOwn sc x = true) (hk : sc.kind = .function) (hi : Nat.blt i Γ.length = true) {px spos : Pos}
    (hp : (px.line == pos.line) = true) (ha : (scope.names.any fun (n, k) => n == x && (k == .local || k == .cell)) = false) (h : Tr X Z (Γ.set i (.own true C)) rest D) : Tr X Z Γ (.Assign [.Name x px] (.ListComp elt gs scope pos) spos :: rest) D := by
  obtain ⟨rfl, rfl, rfl, -, -, -, nd⟩ := g
  obtain ⟨t, h1, h2, h3⟩ := he.ex
  refine tr_of (pss_cons (h2 i x px spos hN (okOwn_loc hl) (sw_true hk (okOwn_loc hl) hp ha)) pssW) fun own σ H g => h3 own σ H g _ fun p o H1 s1 hp ho hc => ?_
  exact h _ _ H1 (g.setN (by rw [Nat.blt_eq] at hi; exact hi) hp s1 ho hc)
end
end Wd

end

section
set_option maxRecDepth 100000
set_option maxHeartbeats 4000000
namespace Wd
open PySem PySem.Spec L2
section
variable {u : Uni} {N : List Str} {sc : Scope} {k : Nat} {X : Cx} {Z : Zn} {Γ : List Ty} {a b c e elt tg iter : Expr} {es : List Expr} {P P1 P2 P3 : Pr} {Ps Qs : List Pr} {pos p apos : Pos} {x : Str} {D : Ends} {rest A B : List Stmt}

/-! ### owned lists, looked at -/
/-- whatever is not changed may be looked at: an owned list as a value -/
def StOwn (C : Ct) (P : Pr) : Prop := ∀ S p o, S p = some o → C.c S o → P.p S (.ref p)
theorem own_L : StOwn (ownL Ps) (isL Ps) := fun S p o h c => ownL_isL S p o h c
/-- P tells nothing of the heap -/
def Plain (P : Pr) : Prop := ∀ S S' v, P.p S v → P.p S' v
theorem plain_V {v : V} : Plain (isV v) := fun _ _ _ h => h
theorem look (i : Nat) {C : Ct} {PL : Pr} (hi : Γ[i]? = some (.own true C)) (hC : StOwn C PL) (hP : Plain P) (h : J X Z (Γ.set i (.val PL)) e P) : J X Z Γ e P := ⟨fun own σ H g Q q => by
  obtain ⟨own', g', hs⟩ := g.frozen hi hC
  exact h own' σ H g' Q fun v H' s p => q v H' s (hP _ _ _ p)⟩
theorem lookT (i : Nat) {C : Ct} {PL : Pr} {d : Bool} (hi : Γ[i]? = some (.own true C)) (hC : StOwn C PL) (h : JT X Z (Γ.set i (.val PL)) e d) : JT X Z Γ e d := ⟨fun own σ H g Q q => by
  obtain ⟨own', g', hs⟩ := g.frozen hi hC
  exact h own' σ H g' Q q⟩
/-- it is no longer changed from here on -/
theorem tr_frz (i : Nat) {C : Ct} {PL : Pr} (hi : Γ[i]? = some (.own true C)) (hC : StOwn C PL) {sts : List Stmt} (h : Tr X Z (Γ.set i (.val PL)) sts D) : Tr X Z Γ sts D := ⟨fun own σ H g => by
  obtain ⟨own', g', _⟩ := g.frozen hi hC
  exact h own' σ H g'⟩
/-- an item of an owned list -/
theorem j_ixO (g : Good u N sc k X) (i : Nat) {n : Int} {l : Bool} (hΓ : Γ[i]? = some (.own l (ownL Ps))) (hN : N[i]? = some x) (hv : okVar sc x = true) (hb : J X Z Γ b (isI n)) (h : atI Ps n = some P) (hs : PlainIx b := by exact fun _ _ => rfl) : J X Z Γ (.Subscript (.Name x p) b pos) P := by
  obtain ⟨rfl, rfl, rfl, -, -, -, -⟩ := g
  obtain ⟨h1, h2, h3⟩ := okVar_vis hv
  refine j_of (pe_ix ix_list (pe_var hN h1 h2 h3) peW hs) fun own σ H g Q q => ?_
  obtain ⟨q1, o, e1, m1, e2, vs, rfl, hall⟩ := g.slot hΓ
  refine ⟨.ref q1, e1, hb own σ H g _ fun v2 H2 s2 p2 => ?_⟩
  obtain ⟨v, h3, h4⟩ := hall.len_atI h
  exact ⟨q1, vs, n, v, rfl, p2, SqL.of (s2 _ _ e2), h3, q v H2 s2 (P.mono (hid_grow s2) h4)⟩
/-! ### .. made and changed -/
theorem tr_setN (g : Good u N sc k X) (hf : ∀ x, X.fn x = true) {C : Ct} (i : Nat) (hN : N[i]? = some x) (hl : okLoc sc x = true) (he : JN X Z Γ e C) (h : Tr X Z (Γ.set i (.own true C)) rest D)
    (hi : Nat.blt i Γ.length = true := by rfl) (hs : swapsWith e (some (.Name x p)) pos.line X.env = pure false := by rfl) : Tr X Z Γ (.Assign [.Name x p] e pos :: rest) D := by
  obtain ⟨l1, l2⟩ := g.hf hf hl
  obtain ⟨rfl, rfl, rfl, -, -, -, nd⟩ := g
  refine tr_of (pss_cons (ps_set (i := i) nd hN l1 peW hs l2) pssW) fun own σ H g => he own σ H g _ fun p o H1 s1 hp ho hc => ?_
  exact h _ _ H1 (g.setN (by rw [Nat.blt_eq] at hi; exact hi) hp s1 ho hc)
theorem tr_append (g : Good u N sc k X) (i : Nat) {l : Bool} (hΓ : Γ[i]? = some (.own l (ownL Ps))) (hN : N[i]? = some x) (hv : okVar sc x = true) (he : J X Z Γ e P) (hsz : Ps.length ≤ 1000) (h : Tr X Z (Γ.set i (.own l (ownL (Ps ++ [P])))) rest D)
    (hbase : attributeBase (.Name x p) "append" X.env (eval (.Name x p) X.env) = eval (.Name x p) X.env := by rfl)
    (hfew : ((backTo pos (starEach [e] X.env)).all (fun x => !x.1) && (backToKw pos (keywordEach [] X.env)).all (fun x => x.1.isSome) && decide ([e].length + ([] : List Keyword).length + (if ([] : List Keyword).isEmpty then 0 else 1) < 30)) = true := by rfl)
    (hline : (apos.endLine == pos.line) = true := by rfl) (hs : starEach [e] X.env = (false, eval e X.env) :: starEach [] X.env := by rfl) {pos2 : Pos} (hsw : swapsWith (.Call (.Attribute (.Name x p) "append" apos) [e] [] pos) none pos2.line X.env = pure false := by rfl) :
    Tr X Z Γ (.Expr (.Call (.Attribute (.Name x p) "append" apos) [e] [] pos) pos2 :: rest) D := by
  obtain ⟨rfl, rfl, rfl, -, -, -, -⟩ := g
  obtain ⟨h1, h2, h3⟩ := okVar_vis hv
  refine tr_of (pss_cons (ps_expr (pe_bm PySem.F.plainAttrs_list PySem.F.slot_list_append PySem.F.type_list_append mt_append (pe_var hN h1 h2 h3) (pa_cons peW pa_nil hs) hbase hfew hline hs rfl) hsw) pssW) fun own σ H g => ?_
  obtain ⟨q1, o, e1, m1, e2, vs, rfl, hall⟩ := g.slot hΓ
  refine ⟨.ref q1, e1, .inl ⟨rfl, vs, SqL.of e2⟩, he own σ H g _ fun v H1 s1 p1 => ?_⟩
  refine ⟨q1, vs, v, rfl, rfl, s1 _ _ e2, small1000 (by rw [← hall.length]; exact hsz), ?_⟩
  exact h own σ _ ((g.grow s1).write hΓ e1 ⟨_, rfl, (hall.mono (hid_grow s1)).append (.cons p1 .nil)⟩)
theorem tr_insert (g : Good u N sc k X) (i : Nat) {l : Bool} {n : Nat} (hΓ : Γ[i]? = some (.own l (ownL Ps))) (hN : N[i]? = some x) (hv : okVar sc x = true) (ha : J X Z Γ a (isI (n : Int))) (he : J X Z Γ e P) (hsz : Ps.length ≤ 1000) (hn : n ≤ 1000)
    (h : Tr X Z (Γ.set i (.own l (ownL (Ps.take n ++ [P] ++ Ps.drop n)))) rest D)
    (hbase : attributeBase (.Name x p) "insert" X.env (eval (.Name x p) X.env) = eval (.Name x p) X.env := by rfl)
    (hfew : ((backTo pos (starEach [a, e] X.env)).all (fun x => !x.1) && (backToKw pos (keywordEach [] X.env)).all (fun x => x.1.isSome) && decide ([a, e].length + ([] : List Keyword).length + (if ([] : List Keyword).isEmpty then 0 else 1) < 30)) = true := by rfl)
    (hline : (apos.endLine == pos.line) = true := by rfl) (hs : starEach [a, e] X.env = (false, eval a X.env) :: starEach [e] X.env := by rfl) (hs2 : starEach [e] X.env = (false, eval e X.env) :: starEach [] X.env := by rfl)
    (hpl : (backTo pos (starEach [e] X.env)).any (·.1) = false := by rfl) {pos2 : Pos} (hsw : swapsWith (.Call (.Attribute (.Name x p) "insert" apos) [a, e] [] pos) none pos2.line X.env = pure false := by rfl) :
    Tr X Z Γ (.Expr (.Call (.Attribute (.Name x p) "insert" apos) [a, e] [] pos) pos2 :: rest) D := by
  obtain ⟨rfl, rfl, rfl, -, -, -, -⟩ := g
  obtain ⟨h1, h2, h3⟩ := okVar_vis hv
  refine tr_of (pss_cons (ps_expr (pe_bm PySem.F.plainAttrs_list PySem.F.slot_list_insert PySem.F.type_list_insert mt_insert (pe_var hN h1 h2 h3) (pa_cons peW (pa_cons peW pa_nil hs2) hs) hbase hfew hline hs hpl) hsw) pssW) fun own σ H g => ?_
  obtain ⟨q1, o, e1, m1, e2, vs, rfl, hall⟩ := g.slot hΓ
  refine ⟨.ref q1, e1, .inl ⟨rfl, vs, SqL.of e2⟩, ha own σ H g _ fun v H1 s1 p1 => he own σ H1 (g.grow s1) _ fun w H2 s2 p2 => ?_⟩
  have s12 := s1.trans s2
  refine ⟨q1, vs, n, w, rfl, by rw [show v = _ from p1], s12 _ _ e2, small1000 (by rw [← hall.length]; exact hsz), by omega, by omega, ?_⟩
  have all' : All (hid own H2) (Ps.take n ++ [P] ++ Ps.drop n) (vs.take n ++ [w] ++ vs.drop n) := by
    have tk : ∀ {Ps : List Pr} {vs : List V} (n : Nat), All (hid own H2) Ps vs → All (hid own H2) (Ps.take n) (vs.take n) ∧ All (hid own H2) (Ps.drop n) (vs.drop n) := fun {Ps vs} n h => by
      induction h generalizing n with
      | nil => simp; exact .nil
      | cons h t ih =>
        cases n with
        | zero => exact ⟨.nil, .cons h t⟩
        | succ n => exact ⟨.cons h (ih n).1, (ih n).2⟩
    have t := tk n (hall.mono (hid_grow s12))
    exact (t.1.append (.cons p2 .nil)).append t.2
  exact h own σ _ ((g.grow s12).write hΓ e1 ⟨_, rfl, all'⟩)
/-- xs += e, xs an owned list -/
theorem tr_extend (g : Good u N sc k X) (hf : ∀ x, X.fn x = true) (i : Nat) {l : Bool} (hΓ : Γ[i]? = some (.own l (ownL Ps))) (hN : N[i]? = some x) (hl : okLoc sc x = true) (he : J X Z Γ e (isL Qs)) (hsz : Ps.length + Qs.length ≤ 1000) (h : Tr X Z (Γ.set i (.own l (ownL (Ps ++ Qs)))) rest D) :
    Tr X Z Γ (.AugAssign (.Name x p) .Add e pos :: rest) D := by
  obtain ⟨l1, l2⟩ := g.hf hf hl
  obtain ⟨rfl, rfl, rfl, -, -, -, nd⟩ := g
  refine tr_of (pss_cons (ps_aug (i := i) nd hN l1 peW iop_ext l2) pssW) fun own σ H g => ?_
  obtain ⟨q1, o, e1, m1, e2, vs, rfl, hall⟩ := g.slot hΓ
  refine ⟨.ref q1, e1, he own σ H g _ fun v H1 s1 ⟨b, ws, e3, hb, hq⟩ => ?_⟩
  refine ⟨q1, b, vs, ws, rfl, e3, s1 _ _ e2, (hid_some hb).2, Nat.le_of_lt (small1000 (by rw [← hall.length, ← hq.length]; exact hsz)), ?_⟩
  have g' := (g.grow s1).write (C' := ownL (Ps ++ Qs)) hΓ e1 ⟨_, rfl, (hall.mono (hid_grow s1)).append hq⟩
  have es : σ.set i (some (.ref q1)) = σ := by
    apply List.ext_getElem?
    intro j
    rw [List.getElem?_set]
    split
    · next hh => subst hh; split
                 · exact e1.symm
                 · next hh => rw [List.getElem?_eq_none (Nat.le_of_not_lt hh)]
    · rfl
  show tWs X rest D (σ.set i (some (.ref q1))) _
  rw [es]
  exact h own σ _ g'
/-- xs[n] = e, xs an owned list -/
theorem tr_store (g : Good u N sc k X) (i : Nat) {l : Bool} {n : Int} {j : Nat} (hΓ : Γ[i]? = some (.own l (ownL Ps))) (hN : N[i]? = some x) (hv : okVar sc x = true) (he : J X Z Γ e P) (hb : J X Z Γ b (isI n)) (hj : ixN Ps.length n = some j) (h : Tr X Z (Γ.set i (.own l (ownL (Ps.set j P)))) rest D)
    {ps : Pos} (hs : swapsWithSole [.Subscript (.Name x p) b ps] e pos.line X.env = pure false := by rfl) (hw : swappedStores [.Subscript (.Name x p) b ps] e X.env = pure none := by rfl)
    (h1 : (assignEach [.Subscript (.Name x p) b ps] X.env).map (·.2) = [assign (.Subscript (.Name x p) b ps) X.env] := by rfl)
    (ha : ∀ v, assign (.Subscript (.Name x p) b ps) X.env v = (do
      let ov ← holding [v] (eval (.Name x p) X.env)
      let iv ← holding [v, ov] (eval b X.env)
      standAt ps
      holding [v, ov, iv] (setItem ov iv v)
      release [v, ov, iv] []) := by intro _; rfl) : Tr X Z Γ (.Assign [.Subscript (.Name x p) b ps] e pos :: rest) D := by
  obtain ⟨rfl, rfl, rfl, -, -, -, -⟩ := g
  obtain ⟨v1, v2, v3⟩ := okVar_vis hv
  refine tr_of (pss_cons (ps_asg peW (pg_sub (pe_var hN v1 v2 v3) peW set_list ha) hs hw h1) pssW) fun own σ H g => he own σ H g _ fun v H1 s1 p1 => ?_
  obtain ⟨q1, o, e1, m1, e2, vs, rfl, hall⟩ := (g.grow s1).slot hΓ
  refine ⟨.ref q1, e1, hb own σ H1 (g.grow s1) _ fun w H2 s2 p2 => ?_⟩
  refine ⟨q1, vs, n, j, rfl, p2, s2 _ _ e2, by rw [← hall.length]; exact hj, ?_⟩
  have st : ∀ {Ps : List Pr} {vs : List V} (j : Nat), All (hid own H2) Ps vs → All (hid own H2) (Ps.set j P) (vs.set j v) := fun {Ps vs} j h => by
    induction h generalizing j with
    | nil => exact .nil
    | cons h t ih =>
      cases j with
      | zero => exact .cons (P.mono (hid_grow s2) p1) t
      | succ j => exact .cons h (ih j)
  exact h own σ _ ((g.grow (s1.trans s2)).write hΓ e1 ⟨_, rfl, st j (hall.mono (hid_grow s2))⟩)
/-- n += e, ints -/
theorem tr_augI (g : Good u N sc k X) (hf : ∀ x, X.fn x = true) (i : Nat) {n m : Int} (hΓ : Γ[i]? = some (.val (isI n))) (hN : N[i]? = some x) (hl : okLoc sc x = true) (he : J X Z Γ e (isI m)) (h : Tr X Z (Γ.set i (.val (isI (n + m)))) rest D) (hi : Nat.blt i Γ.length = true := by rfl) :
    Tr X Z Γ (.AugAssign (.Name x p) .Add e pos :: rest) D := by
  obtain ⟨l1, l2⟩ := g.hf hf hl
  obtain ⟨rfl, rfl, rfl, -, -, -, nd⟩ := g
  refine tr_of (pss_cons (ps_aug (i := i) nd hN l1 peW ip_add l2) pssW) fun own σ H g => ?_
  obtain ⟨v, e1, hv⟩ := g.val hΓ
  refine ⟨v, e1, he own σ H g _ fun w H1 s1 p1 => ⟨n, m, hv, p1, ?_⟩⟩
  exact h own _ H1 ((g.grow s1).set (by rw [Nat.blt_eq] at hi; exact hi) rfl)

/-! ### slices, concatenation -/
def JP (X : Cx) (Z : Zn) (Γ : List Ty) (oe : Option Expr) (n : Option Int) : Prop := ∃ t, PO X oe t ∧ ∀ own σ H, StO Z own Γ σ H → ∀ Q : Option Int → Hp → Prop, (∀ H', Same H H' → Q n H') → t σ H Q
theorem jp_none : JP X Z Γ none none := ⟨_, po_none, fun own σ H g Q q => q H (.refl H)⟩
theorem jp_some {n : Int} (h : J X Z Γ e (isI n)) : JP X Z Γ (some e) (some n) := ⟨_, po_some peW, fun own σ H g Q q => h own σ H g _ fun v H1 s1 p1 => ⟨n, p1, q H1 s1⟩⟩
/-- as cutV, of any items -/
def cutA {α : Type} (xs : List α) (lo hi : Option Int) : List α := (xs.drop (HT.sIx xs.length 0 lo)).take (HT.sIx xs.length xs.length hi - HT.sIx xs.length 0 lo)
theorem all_take {S : Hp} : ∀ {Ps : List Pr} {vs : List V} (n : Nat), All S Ps vs → All S (Ps.take n) (vs.take n)
  | _, _, 0, _ => .nil
  | _, _, _ + 1, .nil => .nil
  | _, _, n + 1, .cons h t => .cons h (all_take n t)
theorem all_drop {S : Hp} : ∀ {Ps : List Pr} {vs : List V} (n : Nat), All S Ps vs → All S (Ps.drop n) (vs.drop n)
  | _, _, 0, h => h
  | _, _, _ + 1, .nil => .nil
  | _, _, n + 1, .cons _ t => all_drop n t
theorem jn_slice (g : Good u N sc k X) {lo hi : Option Expr} {n m : Option Int} {p2 : Pos} (ha : J X Z Γ a P) (ht : LstP u.K P Ps) (hl : JP X Z Γ lo n) (hh : JP X Z Γ hi m) : JN X Z Γ (.Subscript a (.Slice lo hi none p2) pos) (ownL (cutA Ps n m)) := by
  obtain ⟨rfl, -, -, -, -, -, -⟩ := g
  obtain ⟨t1, l1, l2⟩ := hl
  obtain ⟨t2, k1, k2⟩ := hh
  refine jn_of (pe_slice sl_list peW l1 k1) fun own σ H g Q q => ha own σ H g _ fun v H1 s1 p1 => l2 own σ H1 (g.grow s1) _ fun H2 s2 => k2 own σ H2 (g.grow (s1.trans s2)) _ fun H3 s3 => ?_
  obtain ⟨b, vs, rfl, h1, h2⟩ := ht _ _ (P.mono (hid_grow (s2.trans s3)) p1)
  refine ⟨b, vs, rfl, L2.Same.seq hid_sub h1, fun q1 hq => ?_⟩
  have s4 : Same H3 (upd H3 q1 (.lst (cutV vs n m))) := same_new hq
  refine q q1 _ _ ((s1.trans s2).trans (s3.trans s4)) (L2.Same.free ((s1.trans s2).trans s3) hq) upd_same ⟨_, rfl, ?_⟩
  unfold cutA cutV
  rw [h2.length]
  exact all_take _ (all_drop _ (h2.mono (hid_new hq s4)))
theorem j_sliceS {lo hi : Option Expr} {n m : Option Int} {p2 : Pos} {s : Str} (ha : J X Z Γ a (isS s)) (hl : JP X Z Γ lo n) (hh : JP X Z Γ hi m) (hz : s.length ≤ sizeLine) : J X Z Γ (.Subscript a (.Slice lo hi none p2) pos) (isS (cutS s n m)) := by
  obtain ⟨t1, l1, l2⟩ := hl
  obtain ⟨t2, k1, k2⟩ := hh
  exact j_of (pe_slice sl_str peW l1 k1) fun own σ H g Q q => ha own σ H g _ fun v H1 s1 p1 => l2 own σ H1 (g.grow s1) _ fun H2 s2 => k2 own σ H2 (g.grow (s1.trans s2)) _ fun H3 s3 => ⟨s, p1, hz, q _ H3 ((s1.trans s2).trans s3) rfl⟩
/-- a + b, lists -/
theorem jn_cat (ha : J X Z Γ a (isL Ps)) (hb : J X Z Γ b (isL Qs)) (hsz : Ps.length + Qs.length ≤ 1000) : JN X Z Γ (.BinOp a .Add b pos) (ownL (Ps ++ Qs)) := by
  refine jn_of (pe_op op_cat peW peW) fun own σ H g Q q => ha own σ H g _ fun v H1 s1 p1 => hb own σ H1 (g.grow s1) _ fun w H2 s2 p2 => ?_
  obtain ⟨c, vs, rfl, h1, h2⟩ := (isL Ps).mono (hid_grow s2) p1
  obtain ⟨d, ws, rfl, h3, h4⟩ := p2
  refine ⟨c, d, vs, ws, rfl, rfl, (hid_some h1).2, (hid_some h3).2, Nat.le_of_lt (small1000 (by rw [← h2.length, ← h4.length]; exact hsz)), fun q1 hq => ?_⟩
  have s4 : Same H2 (upd H2 q1 (.lst (vs ++ ws))) := same_new hq
  exact q q1 _ _ ((s1.trans s2).trans s4) (L2.Same.free (s1.trans s2) hq) upd_same ⟨_, rfl, (h2.mono (hid_new hq s4)).append (h4.mono (hid_new hq s4))⟩
theorem j_cat (ha : J X Z Γ a (isL Ps)) (hb : J X Z Γ b (isL Qs)) (hsz : Ps.length + Qs.length ≤ 1000) : J X Z Γ (.BinOp a .Add b pos) (isL (Ps ++ Qs)) := J.new (jn_cat ha hb hsz) ownL_isL
theorem all_rep {S : Hp} {Ps : List Pr} {vs : List V} (n : Nat) (h : All S Ps vs) : All S (List.replicate n Ps).flatten (List.replicate n vs).flatten := by
  induction n with
  | zero => exact .nil
  | succ n ih =>
    rw [List.replicate_succ, List.flatten_cons, List.replicate_succ, List.flatten_cons]
    exact h.append ih
/-- a * n, a list -/
theorem jn_rep {n : Nat} (ha : J X Z Γ a (isL Ps)) (hb : J X Z Γ b (isI (n : Int))) (hsz : Ps.length * n ≤ 1000) (hn : n ≤ 1000) : JN X Z Γ (.BinOp a .Mult b pos) (ownL (List.replicate n Ps).flatten) := by
  refine jn_of (pe_op op_rep peW peW) fun own σ H g Q q => ha own σ H g _ fun v H1 s1 p1 => hb own σ H1 (g.grow s1) _ fun w H2 s2 p2 => ?_
  obtain ⟨c, vs, rfl, h1, h2⟩ := (isL Ps).mono (hid_grow s2) p1
  refine ⟨c, n, vs, rfl, p2, (hid_some h1).2, by omega, by omega, Nat.le_of_lt (small1000 (by rw [← h2.length, Int.toNat_natCast]; exact hsz)), fun q1 hq => ?_⟩
  have s4 : Same H2 (upd H2 q1 (.lst (List.replicate (n : Int).toNat vs).flatten)) := same_new hq
  refine q q1 _ _ ((s1.trans s2).trans s4) (L2.Same.free (s1.trans s2) hq) upd_same ⟨_, rfl, ?_⟩
  rw [Int.toNat_natCast]
  exact all_rep n (h2.mono (hid_new hq s4))
/-! ### lists compared with the empty one -/
theorem dp_of {K : PySem.W.Frag} {S S' : Hp} (s : Same S S') : (∀ {v d}, Dp K S v d → Dp K S' v d) ∧ ∀ {vs ds}, DpAll K S vs ds → DpAll K S' vs ds := by
  refine ⟨fun {v d} h => ?_, fun {vs ds} h => ?_⟩
  · exact Dp.rec (motive_1 := fun v d _ => Dp K S' v d) (motive_2 := fun vs ds _ => DpAll K S' vs ds) .non .bl .int .str (fun h _ ih => .lst (L2.Same.seq s h) ih) (fun h _ ih => .tup (Same.tup s h) ih) .nil (fun _ _ h1 h2 => .cons h1 h2) h
  · exact DpAll.rec (motive_1 := fun v d _ => Dp K S' v d) (motive_2 := fun vs ds _ => DpAll K S' vs ds) .non .bl .int .str (fun h _ ih => .lst (L2.Same.seq s h) ih) (fun h _ ih => .tup (Same.tup s h) ih) .nil (fun _ _ h1 h2 => .cons h1 h2) h
/-- a value is this datum -/
def DatP (K : PySem.W.Frag) (P : Pr) (d : PyData) : Prop := ∀ S v, P.p S v → Dp K S v d
theorem dat_I {K : PySem.W.Frag} {i : Int} : DatP K (isI i) (.int i) := fun _ v h => by rw [show v = _ from h]; exact .int i
theorem dat_S {K : PySem.W.Frag} {s : Str} : DatP K (isS s) (.str s) := fun _ v h => by rw [show v = _ from h]; exact .str s
theorem dat_N {K : PySem.W.Frag} : DatP K isN .none := fun _ v h => by rw [show v = _ from h]; exact .non
theorem dat_B {K : PySem.W.Frag} {b : Bool} : DatP K (isB b) (.bool b) := fun _ v h => by rw [show v = _ from h]; exact .bl b
inductive DatPs (K : PySem.W.Frag) : List Pr → List PyData → Prop
  | nil : DatPs K [] []
  | cons {P : Pr} {d : PyData} {Ps : List Pr} {ds : List PyData} : DatP K P d → DatPs K Ps ds → DatPs K (P :: Ps) (d :: ds)
theorem DatPs.all {K : PySem.W.Frag} {S : Hp} : ∀ {Ps : List Pr} {ds : List PyData} {vs : List V}, DatPs K Ps ds → All S Ps vs → DpAll K S vs ds
  | _, _, _, .nil, .nil => .nil
  | _, _, _, .cons h t, .cons q r => .cons (h _ _ q) (DatPs.all t r)
theorem DatPs.map {K : PySem.W.Frag} {α : Type} {f : α → Pr} {g : α → PyData} (h : ∀ a, DatP K (f a) (g a)) : ∀ l : List α, DatPs K (l.map f) (l.map g)
  | [] => .nil
  | a :: l => .cons (h a) (DatPs.map h l)
theorem dat_T {K : PySem.W.Frag} {ds : List PyData} (ht : TupP K P Ps) (h : DatPs K Ps ds) : DatP K P (.tuple ds) := fun S v q => by
  obtain ⟨a, vs, rfl, h1, h2⟩ := ht S v q
  exact .tup h1 (h.all h2)
theorem dat_L {K : PySem.W.Frag} {ds : List PyData} (ht : LstP K P Ps) (h : DatPs K Ps ds) : DatP K P (.list ds) := fun S v q => by
  obtain ⟨a, vs, rfl, h1, h2⟩ := ht S v q
  exact .lst h1 (h.all h2)
/-- equality of data -/
theorem cmp_eqD (g : Good u N sc k X) {d1 d2 : PyData} {b : Bool} (h1 : DatP u.K P1 d1) (h2 : DatP u.K P2 d2) (s1 : SeqAt.shaped d1 = true) (s2 : SeqAt.shaped d2 = true) (hb : PyData.eqv d1 d2 = b) : CmpR X .Eq P1 P2 b := by
  obtain ⟨rfl, -, -, -, hr, -, -⟩ := g
  exact ⟨_, op_eqD hr.units, fun own H v1 v2 p1 p2 Q q => ⟨d1, d2, (dp_of hid_sub).1 (h1 _ _ p1), (dp_of hid_sub).1 (h2 _ _ p2), s1, s2, by rw [hb]; exact q⟩⟩
theorem cmp_neD (g : Good u N sc k X) {d1 d2 : PyData} {b : Bool} (h1 : DatP u.K P1 d1) (h2 : DatP u.K P2 d2) (s1 : SeqAt.shaped d1 = true) (s2 : SeqAt.shaped d2 = true) (hb : PyData.eqv d1 d2 = b) : CmpR X .NotEq P1 P2 (!b) := by
  obtain ⟨rfl, -, -, -, hr, -, -⟩ := g
  exact ⟨_, op_neD hr.units, fun own H v1 v2 p1 p2 Q q => ⟨d1, d2, (dp_of hid_sub).1 (h1 _ _ p1), (dp_of hid_sub).1 (h2 _ _ p2), s1, s2, by rw [hb]; exact q⟩⟩
theorem depthAll_le : ∀ {ds : List PyData} {n : Nat}, (∀ d ∈ ds, d.depth ≤ n) → PyData.depthAll ds ≤ n
  | [], _, _ => by unfold PyData.depthAll; exact Nat.zero_le _
  | d :: ds, n, h => by
    unfold PyData.depthAll
    exact Nat.max_le.mpr ⟨h d List.mem_cons_self, depthAll_le fun e he => h e (List.mem_cons_of_mem _ he)⟩
theorem canAll_of : ∀ {ds : List PyData}, (∀ d ∈ ds, d.canLay0 = true) → PyData.canLayAll0 ds = true
  | [], _ => by unfold PyData.canLayAll0; rfl
  | d :: ds, h => by
    unfold PyData.canLayAll0
    rw [h d List.mem_cons_self, canAll_of fun e he => h e (List.mem_cons_of_mem _ he)]
    rfl
/-- data that may be compared, so deep -/
def Shp (n : Nat) (d : PyData) : Prop := d.canLay0 = true ∧ d.depth ≤ n
theorem Shp.ok {n : Nat} {d : PyData} (h : Shp n d) (hn : n ≤ 64) : SeqAt.shaped d = true := by
  unfold SeqAt.shaped
  rw [h.1, decide_eq_true (Nat.le_trans h.2 hn)]
  rfl
theorem shp_int {i : Int} : Shp 0 (.int i) := ⟨by unfold PyData.canLay0; rfl, by unfold PyData.depth; exact Nat.le_refl _⟩
theorem shp_none : Shp 0 .none := ⟨by unfold PyData.canLay0; rfl, by unfold PyData.depth; exact Nat.le_refl _⟩
theorem shp_bool {b : Bool} : Shp 0 (.bool b) := ⟨by unfold PyData.canLay0; rfl, by unfold PyData.depth; exact Nat.le_refl _⟩
theorem shp_str {s : Str} (h : PyData.strOk s = true) : Shp 0 (.str s) := ⟨by unfold PyData.canLay0; exact h, by unfold PyData.depth; exact Nat.le_refl _⟩
theorem shp_list {n : Nat} {ds : List PyData} (h : ∀ d ∈ ds, Shp n d) : Shp (n + 1) (.list ds) := ⟨by unfold PyData.canLay0; exact canAll_of fun d hd => (h d hd).1, by unfold PyData.depth; exact Nat.succ_le_succ (depthAll_le fun d hd => (h d hd).2)⟩
theorem shp_tuple {n : Nat} {ds : List PyData} (h : ∀ d ∈ ds, Shp n d) : Shp (n + 1) (.tuple ds) := ⟨by unfold PyData.canLay0; exact canAll_of fun d hd => (h d hd).1, by unfold PyData.depth; exact Nat.succ_le_succ (depthAll_le fun d hd => (h d hd).2)⟩
theorem Shp.mono {n m : Nat} {d : PyData} (h : Shp n d) (hn : n ≤ m) : Shp m d := ⟨h.1, Nat.le_trans h.2 hn⟩
theorem eqv_nil (ds : List PyData) : PyData.eqv (.list ds) (.list []) = ds.isEmpty := by cases ds <;> simp [PyData.eqv, PyData.eqvAll]
theorem cmp_eqNil (g : Good u N sc k X) {ds : List PyData} {n : Nat} (h1 : DatP u.K P1 (.list ds)) (s1 : Shp n (.list ds)) (hn : n ≤ 64) : CmpR X .Eq P1 (isL []) ds.isEmpty :=
  cmp_eqD g h1 (dat_L lst_L .nil) (s1.ok hn) (Shp.ok (n := 1) (shp_list (n := 0) fun _ h => by cases h) (by decide)) (eqv_nil ds)
theorem cmp_neNil (g : Good u N sc k X) {ds : List PyData} {n : Nat} (h1 : DatP u.K P1 (.list ds)) (s1 : Shp n (.list ds)) (hn : n ≤ 64) : CmpR X .NotEq P1 (isL []) (!ds.isEmpty) :=
  cmp_neD g h1 (dat_L lst_L .nil) (s1.ok hn) (Shp.ok (n := 1) (shp_list (n := 0) fun _ h => by cases h) (by decide)) (eqv_nil ds)
theorem dat_strs {K : PySem.W.Frag} (ss : List Str) : DatP K (isL (ss.map isS)) (.list (ss.map .str)) := dat_L lst_L (DatPs.map (f := isS) (g := PyData.str) (fun _ => dat_S) ss)
theorem shp_strs {ss : List Str} (h : ∀ s ∈ ss, PyData.strOk s = true) : Shp 1 (.list (ss.map .str)) := shp_list fun d hd => by obtain ⟨s, hs, rfl⟩ := List.mem_map.mp hd; exact shp_str (h s hs)
end
end Wd

end

section
set_option maxRecDepth 100000
set_option maxHeartbeats 4000000
namespace Wd
open PySem PySem.Spec L2
inductive At {α : Type} : List α → Nat → α → Prop
  | here {a : α} {l : List α} : At (a :: l) 0 a
  | there {a b : α} {l : List α} {i : Nat} : At l i a → At (b :: l) (i + 1) a
theorem At.get {α : Type} {l : List α} {i : Nat} {a : α} (h : At l i a) : l[i]? = some a := by
  induction h with
  | here => rfl
  | there _ ih => rw [List.getElem?_cons_succ]; exact ih
theorem At.mem {α : Type} {l : List α} {i : Nat} {a : α} (h : At l i a) : a ∈ l := List.mem_of_getElem? h.get
/-- the names of a scope: V may be read, G are the module's or built-in -/
structure Nm (sc : Scope) (V G : List Str) : Prop where
  v : V.all (okVar sc) = true
  g : G.all (okGl sc) = true
theorem Nm.var {sc : Scope} {V G : List Str} (nm : Nm sc V G) {i : Nat} {x : Str} (h : At V i x) : okVar sc x = true := List.all_eq_true.mp nm.v x h.mem
theorem Nm.gl {sc : Scope} {V G : List Str} (nm : Nm sc V G) {i : Nat} {x : Str} (h : At G i x) : okGl sc x = true := List.all_eq_true.mp nm.g x h.mem
/-- a def: N its slots, ps its parameters, V its own names, G the others -/
def fnB (N ps V G : List Str) (sc : Scope) : Bool :=
  (match sc.kind with | .function => true | _ => false) && (!sc.isCoroutine && (!sc.isGenerator && (decide N.Nodup && (decide (N.take ps.length = ps) && (decide (∀ x ∈ ps, sc.names.lookup x = some .local ∨ sc.names.lookup x = some .cell) &&
    (decide (∀ y ∈ sc.names, y.2 ≠ .free) && (V.all (okVar sc) && (V.all (okLoc sc) && G.all (okGl sc)))))))))
structure FnS (N ps V G : List Str) (sc : Scope) : Prop where
  ok : fnB N ps V G sc = true
section
variable {N ps V G : List Str} {sc : Scope}
theorem and2 {a b : Bool} (h : (a && b) = true) : a = true ∧ b = true := Bool.and_eq_true_iff.mp h
theorem FnS.all (h : FnS N ps V G sc) : FnScope N ps sc ∧ Nm sc V G ∧ V.all (okLoc sc) = true := by
  obtain ⟨h1, h⟩ := and2 h.ok
  obtain ⟨h2, h⟩ := and2 h
  obtain ⟨h3, h⟩ := and2 h
  obtain ⟨h4, h⟩ := and2 h
  obtain ⟨h5, h⟩ := and2 h
  obtain ⟨h6, h⟩ := and2 h
  obtain ⟨h7, h⟩ := and2 h
  obtain ⟨h8, h⟩ := and2 h
  obtain ⟨h9, h⟩ := and2 h
  refine ⟨⟨?_, by simpa using h2, by simpa using h3, of_decide_eq_true h4, of_decide_eq_true h5, of_decide_eq_true h6, of_decide_eq_true h7⟩, ⟨h8, h⟩, h9⟩
  revert h1
  cases sc.kind <;> intro z <;> first | rfl | cases z
theorem FnS.scope (h : FnS N ps V G sc) : FnScope N ps sc := h.all.1
theorem FnS.nm (h : FnS N ps V G sc) : Nm sc V G := h.all.2.1
theorem FnS.loc (h : FnS N ps V G sc) {i : Nat} {x : Str} (a : At V i x) : okLoc sc x = true := List.all_eq_true.mp h.all.2.2 x a.mem
end
section
variable {u : Uni} {N V G : List Str} {sc : Scope} {k : Nat} {X : Cx} {Z : Zn} {Γ : List Ty} {a b c e elt tg iter : Expr} {es : List Expr} {P P1 P2 P3 : Pr} {Ps Qs : List Pr} {pos p apos : Pos} {x : Str} {D : Ends} {rest A B : List Stmt}
theorem lkA (nm : Nm sc V G) {i j : Nat} (hN : At N i x) (hΓ : Γ[i]? = some (.val P)) (hV : At V j x) : LK N sc Γ x P := lk i hN.get hΓ (nm.var hV)
/-- name = e -/
theorem tr_let (g : Good u N sc k X) (hf : ∀ x, X.fn x = true) {ps : List Str} (S : FnS N ps V G sc) {i j : Nat} (hN : At N i x) (hV : At V j x) (he : J X Z Γ e P)
    (hi : Nat.blt i Γ.length = true) (hs : swapsWith e (some (.Name x p)) pos.line X.env = pure false) (h : Tr X Z (Γ.set i (.val P)) rest D) : Tr X Z Γ (.Assign [.Name x p] e pos :: rest) D :=
  tr_set g hf i hN.get (S.loc hV) he h hi hs
theorem tr_letN (g : Good u N sc k X) (hf : ∀ x, X.fn x = true) {ps : List Str} (S : FnS N ps V G sc) {C : Ct} {i j : Nat} (hN : At N i x) (hV : At V j x) (he : JN X Z Γ e C)
    (hi : Nat.blt i Γ.length = true) (hs : swapsWith e (some (.Name x p)) pos.line X.env = pure false) (h : Tr X Z (Γ.set i (.own true C)) rest D) : Tr X Z Γ (.Assign [.Name x p] e pos :: rest) D :=
  tr_setN g hf i hN.get (S.loc hV) he h hi hs
theorem jg_let (g : Good u N sc k X) (hf : ∀ x, X.fn x = true) {ps : List Str} (S : FnS N ps V G sc) {i j : Nat} (hN : At N i x) (hV : At V j x) (hi : Nat.blt i Γ.length = true) : JG X Z Γ (.Name x pos) P [(i, P)] := jg_name g hf i hN.get (S.loc hV) hi

theorem tr_pair (g : Good u N sc k X) (nm : Nm sc V G) {y : Str} {px py pt pt2 : Pos} {kt k2 : Nat} {i j : Nat} (hi : At N i x) (hj : At N j y) (ha : J X Z Γ a P1) (hb : J X Z Γ b P2) (hij : Nat.beq i j = false) (hli : Nat.blt i Γ.length = true) (hlj : Nat.blt j Γ.length = true)
    (hsa : starEach [a, b] X.env = (false, eval a X.env) :: starEach [b] X.env) (hsb : starEach [b] X.env = (false, eval b X.env) :: starEach [] X.env)
    (hs : swapsWithSole [.Tuple [.Name x px, .Name y py] kt pt] (.Tuple [a, b] k2 pt2) pos.line X.env = pure false) (hx : okOwn sc x = true) (hy : okOwn sc y = true)
    (hw : swappedStores [.Tuple [.Name x px, .Name y py] kt pt] (.Tuple [a, b] k2 pt2) (envS sc) = pure (some [x, y])) (h : Tr X Z ((Γ.set i (.val P1)).set j (.val P2)) rest D) :
    Tr X Z Γ (.Assign [.Tuple [.Name x px, .Name y py] kt pt] (.Tuple [a, b] k2 pt2) pos :: rest) D := tr_par g i j hi.get hj.get hij hx hy ha hb hli hlj hsa hsb hw hs h

theorem jg_ownA (g : Good u N sc k X) (nm : Nm sc V G) {i : Nat} (hN : At N i x) (hl : okOwn sc x = true) (hi : Nat.blt i Γ.length = true) : JG X Z Γ (.Name x pos) P [(i, P)] := jg_own g i hN.get hl hi
theorem j_ixOA (g : Good u N sc k X) (nm : Nm sc V G) {i j : Nat} {n : Int} {l : Bool} (hN : At N i x) (hV : At V j x) (hΓ : Γ[i]? = some (.own l (ownL Ps))) (hb : J X Z Γ b (isI n)) (h : atI Ps n = some P) (hs : PlainIx b) : J X Z Γ (.Subscript (.Name x p) b pos) P := j_ixO g i hΓ hN.get (nm.var hV) hb h hs
theorem j_comp {gs : List Comprehension} {scope : Scope} (h : JN X Z Γ (.ListComp elt gs scope pos) (ownL Ps)) : J X Z Γ (.ListComp elt gs scope pos) (isL Ps) := J.new h own_L
theorem j_slL (g : Good u N sc k X) {lo hi : Option Expr} {n m : Option Int} {p2 : Pos} (ha : J X Z Γ a P) (ht : LstP u.K P Ps) (hl : JP X Z Γ lo n) (hh : JP X Z Γ hi m) : J X Z Γ (.Subscript a (.Slice lo hi none p2) pos) (isL (cutA Ps n m)) := J.new (jn_slice g ha ht hl hh) own_L
theorem tr_storeA (g : Good u N sc k X) (nm : Nm sc V G) {i j : Nat} {l : Bool} {n : Int} {m : Nat} (hN : At N i x) (hV : At V j x) (hΓ : Γ[i]? = some (.own l (ownL Ps))) (he : J X Z Γ e P) (hb : J X Z Γ b (isI n)) (hj : ixN Ps.length n = some m) {ps : Pos}
    (hs : swapsWithSole [.Subscript (.Name x p) b ps] e pos.line X.env = pure false) (hw : swappedStores [.Subscript (.Name x p) b ps] e X.env = pure none) (h1 : (assignEach [.Subscript (.Name x p) b ps] X.env).map (·.2) = [assign (.Subscript (.Name x p) b ps) X.env])
    (ha : ∀ v, assign (.Subscript (.Name x p) b ps) X.env v = (do
      let ov ← holding [v] (eval (.Name x p) X.env)
      let iv ← holding [v, ov] (eval b X.env)
      standAt ps
      holding [v, ov, iv] (setItem ov iv v)
      release [v, ov, iv] [])) (h : Tr X Z (Γ.set i (.own l (ownL (Ps.set m P)))) rest D) : Tr X Z Γ (.Assign [.Subscript (.Name x p) b ps] e pos :: rest) D := tr_store g i hΓ hN.get (nm.var hV) he hb hj h hs hw h1 ha
theorem tr_extendA (g : Good u N sc k X) (hf : ∀ x, X.fn x = true) {ps : List Str} (S : FnS N ps V G sc) {i j : Nat} {l : Bool} (hN : At N i x) (hV : At V j x) (hΓ : Γ[i]? = some (.own l (ownL Ps))) (he : J X Z Γ e (isL Qs)) (hsz : Ps.length + Qs.length ≤ 1000) (h : Tr X Z (Γ.set i (.own l (ownL (Ps ++ Qs)))) rest D) :
    Tr X Z Γ (.AugAssign (.Name x p) .Add e pos :: rest) D := tr_extend g hf i hΓ hN.get (S.loc hV) he hsz h
theorem tr_augIA (g : Good u N sc k X) (hf : ∀ x, X.fn x = true) {ps : List Str} (S : FnS N ps V G sc) {i j : Nat} {n m : Int} (hN : At N i x) (hV : At V j x) (hΓ : Γ[i]? = some (.val (isI n))) (he : J X Z Γ e (isI m)) (hi : Nat.blt i Γ.length = true) (h : Tr X Z (Γ.set i (.val (isI (n + m)))) rest D) :
    Tr X Z Γ (.AugAssign (.Name x p) .Add e pos :: rest) D := tr_augI g hf i hΓ hN.get (S.loc hV) he h hi
theorem tr_appendA (g : Good u N sc k X) (nm : Nm sc V G) {i j : Nat} {l : Bool} (hN : At N i x) (hV : At V j x) (hΓ : Γ[i]? = some (.own l (ownL Ps))) (he : J X Z Γ e P) (hsz : Ps.length ≤ 1000)
    (hbase : attributeBase (.Name x p) "append" X.env (eval (.Name x p) X.env) = eval (.Name x p) X.env)
    (hfew : ((backTo pos (starEach [e] X.env)).all (fun x => !x.1) && (backToKw pos (keywordEach [] X.env)).all (fun x => x.1.isSome) && decide ([e].length + ([] : List Keyword).length + (if ([] : List Keyword).isEmpty then 0 else 1) < 30)) = true)
    (hline : (apos.endLine == pos.line) = true) (hs : starEach [e] X.env = (false, eval e X.env) :: starEach [] X.env) {pos2 : Pos} (hsw : swapsWith (.Call (.Attribute (.Name x p) "append" apos) [e] [] pos) none pos2.line X.env = pure false)
    (h : Tr X Z (Γ.set i (.own l (ownL (Ps ++ [P])))) rest D) : Tr X Z Γ (.Expr (.Call (.Attribute (.Name x p) "append" apos) [e] [] pos) pos2 :: rest) D :=
  tr_append g i hΓ hN.get (nm.var hV) he hsz h hbase hfew hline hs hsw

/-! ### built-ins by name -/
structure Bts (u : Uni) : Prop where
  len : Free u "len"
  range : Free u "range"
  isi : Free u "isinstance"
  int : Free u "int"
  str : Free u "str"
  bool : Free u "bool"
  list : Free u "list"
  tuple : Free u "tuple"
  dict : Free u "dict"
  set : Free u "set"
  abs : Free u "abs"
  max : Free u "max"
  min : Free u "min"
  sum : Free u "sum"
  all : Free u "all"
  zip : Free u "zip"
  sorted : Free u "sorted"
  enumerate : Free u "enumerate"
/-- the length of such a thing -/
def LenP (u : Uni) (P : Pr) (n : Nat) : Prop := ∀ X : Cx, u = uniOf X → CalR X (.builtin "len") [P] (isI (n : Int))
theorem len_L (h : LstP u.K P Ps) {n : Nat} (hn : Ps.length = n) : LenP u P n := fun X e => by subst e hn; exact cal_lenL rfl h
theorem len_T (h : TupP u.K P Ps) {n : Nat} (hn : Ps.length = n) : LenP u P n := fun X e => by subst e hn; exact cal_lenT rfl h
theorem len_S {s : Str} (h : s.length ≤ sizeLine) {n : Nat} (hn : s.length = n) : LenP u (isS s) n := fun X e => by subst e hn; exact cal_lenS h
section
variable (g : Good u N sc k X) (bt : Bts u) (nm : Nm sc V G) {j : Nat}
include g bt nm
theorem jb_len {n : Nat} (hG : At G j "len") (ha : J X Z Γ a P) (h : LenP u P n) (hs : starEach [a] X.env = (false, eval a X.env) :: starEach [] X.env) : J X Z Γ (.Call (.Name "len" p) [a] [] pos) (isI (n : Int)) :=
  j_callB g bt.len PySem.boot_len (ja_cons ha ja_nil hs) (h X g.eu) (nm.gl hG) hs rfl
theorem jb_abs {i : Int} (hG : At G j "abs") (ha : J X Z Γ a (isI i)) (hs : starEach [a] X.env = (false, eval a X.env) :: starEach [] X.env) : J X Z Γ (.Call (.Name "abs" p) [a] [] pos) (isI (i.natAbs : Int)) :=
  j_callB g bt.abs (by first | exact PySem.boot_abs | exact PyProof.Rows.boot_abs | exact PySem.P.boot_abs | exact PySem.W.boot_abs) (ja_cons ha ja_nil hs) cal_abs (nm.gl hG) hs rfl
theorem jb_max {i l : Int} (hG : At G j "max") (ha : J X Z Γ a (isI i)) (hb : J X Z Γ b (isI l)) (hs : starEach [a, b] X.env = (false, eval a X.env) :: starEach [b] X.env) (hs2 : starEach [b] X.env = (false, eval b X.env) :: starEach [] X.env) (hp : (backTo pos (starEach [b] X.env)).any (·.1) = false) :
    J X Z Γ (.Call (.Name "max" p) [a, b] [] pos) (isI (max i l)) := j_callB g bt.max (by first | exact PySem.boot_max | exact PyProof.Rows.boot_max | exact PySem.P.boot_max | exact PySem.W.boot_max) (ja_cons ha (ja_cons hb ja_nil hs2) hs) (cal_max g.calm) (nm.gl hG) hs hp
theorem jb_min {i l : Int} (hG : At G j "min") (ha : J X Z Γ a (isI i)) (hb : J X Z Γ b (isI l)) (hs : starEach [a, b] X.env = (false, eval a X.env) :: starEach [b] X.env) (hs2 : starEach [b] X.env = (false, eval b X.env) :: starEach [] X.env) (hp : (backTo pos (starEach [b] X.env)).any (·.1) = false) :
    J X Z Γ (.Call (.Name "min" p) [a, b] [] pos) (isI (min i l)) := j_callB g bt.min (by first | exact PySem.boot_min | exact PyProof.Rows.boot_min | exact PySem.P.boot_min | exact PySem.W.boot_min) (ja_cons ha (ja_cons hb ja_nil hs2) hs) (cal_min g.calm) (nm.gl hG) hs hp
theorem jb_intB {d : Bool} (hG : At G j "int") (ha : J X Z Γ a (isB d)) (hs : starEach [a] X.env = (false, eval a X.env) :: starEach [] X.env) : J X Z Γ (.Call (.Name "int" p) [a] [] pos) (isI (if d then 1 else 0)) :=
  j_callT g bt.int (by first | exact PySem.boot_int | exact PyProof.Rows.boot_int | exact PySem.P.boot_int | exact PySem.W.boot_int) (ja_cons ha ja_nil hs) cal_intB (nm.gl hG) hs rfl
theorem jb_intS {s : Str} {n : Int} (hG : At G j "int") (ha : J X Z Γ a (isS s)) (h1 : PySem.intText? s = some n) (h2 : s.length ≤ 640) (hs : starEach [a] X.env = (false, eval a X.env) :: starEach [] X.env) : J X Z Γ (.Call (.Name "int" p) [a] [] pos) (isI n) :=
  j_callT g bt.int (by first | exact PySem.boot_int | exact PyProof.Rows.boot_int | exact PySem.P.boot_int | exact PySem.W.boot_int) (ja_cons ha ja_nil hs) (cal_intS h1 h2) (nm.gl hG) hs rfl
theorem jb_str {n : Int} (hG : At G j "str") (ha : J X Z Γ a (isI n)) (h : n.natAbs.log2 < 1920) (hs : starEach [a] X.env = (false, eval a X.env) :: starEach [] X.env) : J X Z Γ (.Call (.Name "str" p) [a] [] pos) (isV (.str (toString n))) :=
  j_callT g bt.str (by first | exact PySem.boot_str | exact PyProof.Rows.boot_str | exact PySem.P.boot_str | exact PySem.W.boot_str) (ja_cons ha ja_nil hs) (cal_str h) (nm.gl hG) hs rfl
theorem jb_sum {ns : List Int} (hG : At G j "sum") (ha : J X Z Γ a P) (h : LstP u.K P (ns.map isI)) (hs : starEach [a] X.env = (false, eval a X.env) :: starEach [] X.env) : J X Z Γ (.Call (.Name "sum" p) [a] [] pos) (isI ns.sum) :=
  j_callB g bt.sum (by first | exact PySem.boot_sum | exact PyProof.Rows.boot_sum | exact PySem.P.boot_sum | exact PySem.W.boot_sum) (ja_cons ha ja_nil hs) (cal_sum (congrArg Uni.K g.eu) g.calm h) (nm.gl hG) hs rfl
theorem jb_all {ns : List Bool} (hG : At G j "all") (ha : J X Z Γ a P) (h : LstP u.K P (ns.map isB)) (hs : starEach [a] X.env = (false, eval a X.env) :: starEach [] X.env) : J X Z Γ (.Call (.Name "all" p) [a] [] pos) (isB (ns.all id)) :=
  j_callB g bt.all (by first | exact PySem.boot_all | exact PyProof.Rows.boot_all | exact PySem.P.boot_all | exact PySem.W.boot_all) (ja_cons ha ja_nil hs) (cal_all (congrArg Uni.K g.eu) g.calm h) (nm.gl hG) hs rfl
theorem jb_tuple (hG : At G j "tuple") (ha : J X Z Γ a P) (h : LstP u.K P Ps) (hs : starEach [a] X.env = (false, eval a X.env) :: starEach [] X.env) : J X Z Γ (.Call (.Name "tuple" p) [a] [] pos) (isT u.K Ps) :=
  j_callT g bt.tuple (by first | exact PySem.boot_tuple | exact PyProof.Rows.boot_tuple | exact PySem.P.boot_tuple | exact PySem.W.boot_tuple) (ja_cons ha ja_nil hs) (cal_tuple (congrArg Uni.K g.eu) h) (nm.gl hG) hs rfl
theorem jnb_list (hG : At G j "list") (ha : J X Z Γ a P) (h : LstP u.K P Ps) (hs : starEach [a] X.env = (false, eval a X.env) :: starEach [] X.env) : JN X Z Γ (.Call (.Name "list" p) [a] [] pos) (ownL Ps) :=
  jn_callT g bt.list (by first | exact PySem.boot_list | exact PyProof.Rows.boot_list | exact PySem.P.boot_list | exact PySem.W.boot_list) (ja_cons ha ja_nil hs) (caln_list (congrArg Uni.K g.eu) h) (nm.gl hG) hs rfl
/-- isinstance(a, T), T a built-in class -/
theorem jb_isi {t : Value} {T : String} {d : Bool} {y : Str} {j2 : Nat} (hy : Free u y) (hv : bootBuiltins y = some (.type T)) (hG : At G j "isinstance") (hG2 : At G j2 y) (ha : J X Z Γ a P) (ht : HasTy u.K P t) (hk : PySem.W.kitOne u.K t (.type T) = some d) {py : Pos}
    (hs : starEach [a, .Name y py] X.env = (false, eval a X.env) :: starEach [.Name y py] X.env) : J X Z Γ (.Call (.Name "isinstance" p) [a, .Name y py] [] pos) (isB d) :=
  j_callB g bt.isi (by first | exact PySem.boot_isinstance | exact PyProof.Rows.boot_isinstance | exact PySem.P.boot_isinstance | exact PySem.W.boot_isinstance) (ja_cons ha (ja_cons (j_ty g hy hv (nm.gl hG2)) ja_nil rfl) hs) (cal_isi (congrArg Uni.K g.eu) ht hk) (nm.gl hG) hs rfl
end
end
section
variable {u : Uni} {N V G : List Str} {sc : Scope} {k : Nat} {X : Cx} {Z : Zn} {Γ : List Ty} {a b c e elt tg iter : Expr} {es : List Expr} {P P1 P2 P3 : Pr} {Ps Qs : List Pr} {pos p apos : Pos} {x : Str} {D : Ends} {rest A B : List Stmt}
/-! ### loops by data -/
def InD {α : Type} (Z : Zn) (Go : α → List Ty) (φ : α → Prop) : L2.St → Hp → Prop := fun σ H => ∃ a own, φ a ∧ StO Z own (Go a) σ H
theorem tr_whileD {α : Type} (g : Good u N sc k X) {body : List Stmt} (Go : α → List Ty) (φ : α → Prop) (μ : α → Nat) (a0 : α) (h0 : φ a0) (hΓ : Γ = Go a0)
    (hs : ∀ a, φ a → ∃ d, JT X Z (Go a) c d ∧ (d = true → Tr X Z (Go a) body { D with nx := InD Z Go (fun a' => φ a' ∧ μ a' < μ a), ct := InD Z Go (fun a' => φ a' ∧ μ a' < μ a), bk := tWs X rest D }) ∧ (d = false → Tr X Z (Go a) rest D)) :
    Tr X Z Γ (.While c body [] pos :: rest) D := by
  subst hΓ
  obtain ⟨rfl, -, -, hc, -, hx, -⟩ := g
  refine tr_of (pss_cons (ps_while (by rw [hx]; exact PassesOwn.never) ptW pssW) pssW) fun own σ H g => ?_
  refine ⟨fun m σ H => ∃ a own', φ a ∧ m = μ a ∧ StO Z own' (Go a) σ H, ⟨_, a0, own, h0, rfl, g⟩, ?_⟩
  rintro m σ' H' ⟨a, own', hI, rfl, g'⟩
  obtain ⟨d, jt, ht, hf⟩ := hs a hI
  refine jt own' σ' H' g' _ fun H2 s2 => ?_
  cases d with
  | true => exact ⟨InD Z Go (fun a' => φ a' ∧ μ a' < μ a), fun σ3 H3 ⟨a3, own3, ⟨h3, hm⟩, g3⟩ => ⟨_, hm, a3, own3, h3, rfl, g3⟩, ht rfl own' σ' H2 (g'.grow s2)⟩
  | false => exact hf rfl own' σ' H2 (g'.grow s2)
theorem tr_forD {α : Type} (g : Good u N sc k X) {tg iter : Expr} {body : List Stmt} (hi : JI X Z Γ tg iter Ps) (Go : Nat → α → List Ty) (φ : Nat → α → Prop) (a0 : α) (h0 : φ 0 a0) (hs0 : Sub Γ (Go 0 a0))
    (hs : ∀ (i : Nat) (P : Pr) (a : α) (G : Hp), Ps[i]? = some P → φ i a → ∃ l, JG X { Z with G := G } (Go i a) tg P l ∧
      Tr X { Z with G := G } (setAll (Go i a) l) body { D with nx := InD { Z with G := G } (Go (i + 1)) (φ (i + 1)), ct := InD { Z with G := G } (Go (i + 1)) (φ (i + 1)), bk := tWs X rest D })
    (hd : ∀ a, φ Ps.length a → Tr X Z (Go Ps.length a) rest D) (hf : ∀ x, foldedSetIterable iter X.env x = pure x := by intro _; rfl) : Tr X Z Γ (.For tg iter body [] pos :: rest) D := by
  obtain ⟨rfl, -, -, hc, -, hx, -⟩ := g
  obtain ⟨wi, p1, p2⟩ := hi
  refine tr_of (pss_cons (ps_for (by rw [hx]; exact PassesOwn.never) hc p1 pgW pssW hf) pssW) fun own σ H g => p2 own σ H g _ fun T H1 s1 src => ?_
  have gG := (g.grow s1).more
  have less : ∀ {own' Γ' σ' H'}, StO { Z with G := hid own H1 } own' Γ' σ' H' → StO Z own' Γ' σ' H' := fun g' => g'.less (G := Z.G) (g.grow s1).gh
  refine ⟨fun i m σ H => m = Ps.length - i ∧ i ≤ Ps.length ∧ InD { Z with G := hid own H1 } (Go i) (φ i) σ H, ⟨Ps.length, by simp, Nat.zero_le _, a0, own, h0, gG.sub hs0⟩, ?_⟩
  rintro i m σ' H' ⟨rfl, hi, a, own', hI, g'⟩
  by_cases hlt : i < Ps.length
  · obtain ⟨go, yl⟩ := src.1 i Ps[i] (by rw [List.getElem?_eq_getElem hlt]) own' H' g'.gh g'.dom'
    refine .inr ⟨go, InD { Z with G := hid own H1 } (Go (i + 1)) (φ (i + 1)), fun σ2 H2 h2 => ⟨Ps.length - (i + 1), by omega, rfl, hlt, h2⟩, fun v H2 y => ?_⟩
    obtain ⟨s2, pv⟩ := yl v H2 y
    obtain ⟨l, jg, tb⟩ := hs i Ps[i] a (hid own H1) (by rw [List.getElem?_eq_getElem hlt]) hI
    exact jg own' σ' H2 v (g'.grow s2) pv _ fun σ3 g3 _ => tb own' σ3 H2 g3
  · obtain rfl : i = Ps.length := by omega
    exact .inl ⟨src.2 own' H' g'.gh, hd a hI own' σ' H' (less g')⟩
/-- the end of a turn -/
theorem tr_turnD {α : Type} {Go : α → List Ty} {φ : α → Prop} {D' : Ends} (a : α) (hD : D'.nx = InD Z Go φ) (h : φ a) (hs : Sub Γ (Go a)) : Tr X Z Γ [] D' := tr_nil fun own σ H g => by
  rw [hD]
  exact ⟨a, own, h, g.sub hs⟩
/-- continue -/
theorem tr_contD {α : Type} {Go : α → List Ty} {φ : α → Prop} {D' : Ends} (a : α) (hD : D'.ct = InD Z Go φ) (h : φ a) (hs : Sub Γ (Go a)) : Tr X Z Γ (.Continue pos :: rest) D' :=
  tr_of (pss_cons ps_continue pss_never) fun own σ H g => by
    show D'.ct σ H
    rw [hD]
    exact ⟨a, own, h, g.sub hs⟩
/-- break -/
theorem tr_break (h : Tr X Z Γ B D) {D' : Ends} (hD : D'.bk = tWs X B D) : Tr X Z Γ (.Break pos :: rest) D' :=
  tr_of (pss_cons ps_break pss_never) fun own σ H g => by
    show D'.bk σ H
    rw [hD]
    exact h own σ H g
theorem Sub.one {T T' : Ty} {Γ Γ' : List Ty} (h : T.Le T') (s : Sub Γ Γ') : Sub (T :: Γ) (T' :: Γ') := .cons h s
end
end Wd

end

section
set_option maxRecDepth 100000
set_option maxHeartbeats 4000000
namespace Wd
open PySem PySem.Spec L2
section
variable {u : Uni} {N Vn G : List Str} {sc : Scope} {k : Nat} {X : Cx} {Z : Zn} {Γ : List Ty} {a b c e elt tg iter : Expr} {es : List Expr} {P P1 P2 P3 : Pr} {Ps Qs : List Pr} {pos p apos : Pos} {x : Str} {D : Ends} {rest A B sts : List Stmt} {σ : L2.St} {H : Hp} {own : List Addr}

theorem set_self {σ : L2.St} {i : Nat} {v : V} (h : σ[i]? = some (some v)) : σ.set i (some v) = σ := by
  apply List.ext_getElem?
  intro j
  rw [List.getElem?_set]
  split
  · next hh =>
    subst hh
    split
    · exact h.symm
    · next hh => rw [List.getElem?_eq_none (Nat.le_of_not_lt hh)]
  · rfl
theorem get_lt {α : Type} {l : List α} {i : Nat} {y : α} (h : l[i]? = some y) : i < l.length := by
  rcases Nat.lt_or_ge i l.length with z | z
  · exact z
  · rw [List.getElem?_eq_none z] at h; cases h
/-- what is told of a slot is taken apart -/
theorem tr_ex (i : Nat) {α : Type} {f : α → Pr} (hΓ : Γ[i]? = some (.val (Pr.ex f))) (h : ∀ a, Tr X Z (Γ.set i (.val (f a))) sts D) : Tr X Z Γ sts D := ⟨fun own σ H g => by
  obtain ⟨v, e, a, q⟩ := g.val hΓ
  have g' := g.set (i := i) (P := f a) (v := v) (get_lt hΓ) q
  rw [set_self e] at g'
  exact (h a) own σ H g'⟩
theorem tr_and (i : Nat) {φ : Prop} (hΓ : Γ[i]? = some (.val (Pr.and φ P))) (h : φ → Tr X Z (Γ.set i (.val P)) sts D) : Tr X Z Γ sts D := ⟨fun own σ H g => by
  obtain ⟨v, e, a, q⟩ := g.val hΓ
  have g' := g.set (i := i) (P := P) (v := v) (get_lt hΓ) q
  rw [set_self e] at g'
  exact (h a) own σ H g'⟩
theorem nn_N : ∀ (S : Hp) (v : V), isN.p S v → decide (v = .non) = true := fun S v h => by rw [show v = V.non from h]; decide
theorem nn_I {n : Int} : ∀ (S : Hp) (v : V), (isI n).p S v → decide (v = .non) = false := fun S v h => decide_eq_false fun z => by rw [show v = V.int n from h] at z; cases z
theorem nn_S {n : Str} : ∀ (S : Hp) (v : V), (isS n).p S v → decide (v = .non) = false := fun S v h => decide_eq_false fun z => by rw [show v = V.str n from h] at z; cases z
theorem nn_T {K : PySem.W.Frag} (ht : TupP K P Ps) : ∀ (S : Hp) (v : V), P.p S v → decide (v = .non) = false := fun S v h => decide_eq_false fun z => by
  obtain ⟨a, vs, e, _⟩ := ht S v h
  rw [e] at z; cases z
/-- off the end -/
theorem tr_off : Tr X Z Γ [] (DRz Z isN) := tr_nil fun own σ H g => ⟨own, Γ, _, g, rfl⟩

theorem tWs_mono {D' : Ends} (h : tWs X sts D σ H) (h1 : ∀ σ H, D.nx σ H → D'.nx σ H) (h2 : ∀ v H, D.rt v H → D'.rt v H) (h3 : ∀ σ H, D.bk σ H → D'.bk σ H) (h4 : ∀ σ H, D.ct σ H → D'.ct σ H) : tWs X sts D' σ H :=
  fun pins s I => thn (h pins s I) fun fl s2 z => SP.mono' z h1 h2 h3 h4
/-! ### an owned thing is locked for a while -/
def lkZ (Z : Zn) (p : Addr) (o : HO) : Zn := { Z with H0 := upd Z.H0 p o, O := p :: Z.O }
theorem StO.lock (g : StO Z own Γ σ H) {i : Nat} {p : Addr} {o : HO} {C : Ct} (nt : ∀ vs, o ≠ .tup vs) (hi : Γ[i]? = some (.own true C)) (hp : σ[i]? = some (some (.ref p))) : StO (lkZ Z p o) own (Γ.set i .any) σ (upd H p o) ∧ Z.H0 p = none ∧ p ∉ Z.M := by
  have hp := getD_in hp
  obtain ⟨p', o', e1, h1, h2, h2', h3, h4⟩ := g.at_ i _ hi
  rw [hp] at e1
  obtain rfl : p = p' := by injection e1 with e; injection e
  have hh : hid own (upd H p o) = hid own H := hid_upd h1
  have z0 := h2 rfl
  have nM : p ∉ Z.M := fun z => g.dO p (g.mo p z) z0
  refine ⟨⟨fun a ha => ?_, fun a ha => ?_, fun a ha => ?_, fun a w k1 k2 => ?_, fun j T e => ?_, fun a b la lb A B q ha hb x1 x2 => ?_, by rw [List.length_set]; exact g.len, by rw [hh]; exact g.gh, fun a ha => List.mem_cons_of_mem _ (g.mo a ha), fun a ha => ?_⟩, z0, nM⟩
  · by_cases q : a = p
    · rw [q, upd_same]; exact live_of nt
    · rw [upd_ne q]; exact g.dom a ha
  · rcases List.mem_cons.mp ha with rfl | ha
    · exact h1
    · exact g.old a ha
  · by_cases q : a = p
    · exact .inl (by rw [q]; exact List.mem_cons_self)
    · rcases g.new a ha with z | z
      · exact .inl (List.mem_cons_of_mem _ z)
      · exact .inr (by show upd Z.H0 p o a = none; rw [upd_ne q]; exact z)
  · by_cases q : a = p
    · subst q
      rw [show (lkZ Z a o).H0 a = some o from upd_same] at k1
      rw [upd_same]; exact k1
    · rw [show (lkZ Z p o).H0 a = Z.H0 a from upd_ne q] at k1
      rw [upd_ne q]; exact g.keep a w k1 k2
  · rcases getE_set e with ⟨_, q⟩ | ⟨n, eT⟩
    · subst q; trivial
    · have q := g.at_ j T eT
      cases T with
      | any => trivial
      | val P => obtain ⟨v, e, q⟩ := q; exact ⟨v, e, by rw [hh]; exact q⟩
      | own lb B =>
        obtain ⟨p', o', f1, k1, k2, k2', k3, k4⟩ := q
        have ne : p' ≠ p := fun z => n (g.uniq i j true lb C B p hi eT hp (by rw [f1, z]))
        exact ⟨p', o', f1, k1, fun z => by show upd Z.H0 p o p' = none; rw [upd_ne ne]; exact k2 z, k2', by rw [upd_ne ne]; exact k3, by rw [hh]; exact k4⟩
  · rcases getE_set ha with ⟨_, q⟩ | ⟨na, ta⟩
    · cases q
    · rcases getE_set hb with ⟨_, q'⟩ | ⟨nb, tb⟩
      · cases q'
      · exact g.uniq a b la lb A B q ta tb x1 x2
  · by_cases q : a = p
    · rw [q, show (lkZ Z p o).H0 p = some o from upd_same]; exact fun z => nomatch z
    · rw [show (lkZ Z p o).H0 a = Z.H0 a from upd_ne q]
      rcases List.mem_cons.mp ha with z | z
      · exact absurd z q
      · exact g.dO a z
theorem StO.locked {p : Addr} {o : HO} (g : StO (lkZ Z p o) own Γ σ H) (nM : p ∉ Z.M) : H p = some o ∧ p ∈ own := ⟨g.keep p o upd_same nM, g.old p List.mem_cons_self⟩
theorem StO.unlock {p : Addr} {o v : HO} (nt : ∀ vs, v ≠ .tup vs) (g : StO (lkZ Z p o) own Γ σ H) (z0 : Z.H0 p = none) (nM : p ∉ Z.M) (dO : ∀ a ∈ Z.O, Z.H0 a ≠ none) (mo : ∀ a ∈ Z.M, a ∈ Z.O) : StO Z own Γ σ (upd H p v) ∧ hid own (upd H p v) = hid own H := by
  obtain ⟨hp, h1⟩ := g.locked nM
  have hh : hid own (upd H p v) = hid own H := hid_upd h1
  refine ⟨⟨fun a ha => ?_, fun a ha => g.old a (List.mem_cons_of_mem _ ha), fun a ha => ?_, fun a w k1 k2 => ?_, fun j T e => ?_, g.uniq, g.len, by rw [hh]; exact g.gh, mo, dO⟩, hh⟩
  · by_cases q : a = p
    · rw [q, upd_same]; exact live_of nt
    · rw [upd_ne q]; exact g.dom a ha
  · by_cases q : a = p
    · exact .inr (q ▸ z0)
    · rcases g.new a ha with z | z
      · exact .inl ((List.mem_cons.mp z).resolve_left q)
      · exact .inr (by rw [show (lkZ Z p o).H0 a = Z.H0 a from upd_ne q] at z; exact z)
  · have q : a ≠ p := fun z => by rw [z, z0] at k1; cases k1
    rw [upd_ne q]
    exact g.keep a w (by rw [show (lkZ Z p o).H0 a = Z.H0 a from upd_ne q]; exact k1) k2
  · have q := g.at_ j T e
    cases T with
    | any => trivial
    | val P => obtain ⟨v, e, q⟩ := q; exact ⟨v, e, by rw [hh]; exact q⟩
    | own lb B =>
      obtain ⟨p', o', f1, k1, k2, k2', k3, k4⟩ := q
      have ne : p' ≠ p := fun z => by
        subst z
        cases lb with
        | true => have := k2 rfl; rw [show (lkZ Z p' o).H0 p' = some o from upd_same] at this; cases this
        | false => exact nM (k2' rfl)
      exact ⟨p', o', f1, k1, fun z => by have := k2 z; rw [show (lkZ Z p o).H0 p' = Z.H0 p' from upd_ne ne] at this; exact this, k2', by rw [upd_ne ne]; exact k3, by rw [hh]; exact k4⟩

/-! ### a dict whose keys are pairs of ints -/
def ownDT (φ : Rat → Prop) (n : Nat) : Ct := ⟨fun _ o => ∃ kvs, o = .dT kvs ∧ kvs.length ≤ n ∧ ∀ kv ∈ kvs, ∃ q : Rat, φ q ∧ kv.1 = [Sum.inl q.num, Sum.inl (q.den : Int)], fun _ h => h, fun ⟨_, e, _⟩ vs z => by subst e; cases z⟩
def isPtt (q : Rat) : Pr := isTt [isI q.num, isI (q.den : Int)]
theorem jn_newT {φ : Rat → Prop} : JN X Z Γ (.Dict [] [] pos) (ownDT φ 0) := jn_of pe_dnewT fun own σ H g Q q p hp => q p _ _ (same_new hp) hp upd_same ⟨[], rfl, Nat.le_refl _, fun _ h => nomatch h⟩
theorem ptt_kV {S : Hp} {v : V} {q : Rat} (h : (isPtt q).p S v) : ∃ a, v = .ref a ∧ S a = some (.tup ([Sum.inl q.num, Sum.inl (q.den : Int)].map kV)) := by
  obtain ⟨a, vs, rfl, h1, h2⟩ := h
  obtain ⟨v1, v2, rfl, e1, e2⟩ := all2 h2
  rw [show v1 = _ from e1, show v2 = _ from e2] at h1
  exact ⟨a, rfl, h1⟩
theorem mem_putK {κ : Type} [DecidableEq κ] {kvs : List (κ × V)} {k : κ} {v : V} {kv : κ × V} (h : kv ∈ putK kvs k v) : kv.1 = k ∨ ∃ kv' ∈ kvs, kv'.1 = kv.1 := by
  unfold putK at h
  split at h
  · obtain ⟨kv', h1, rfl⟩ := List.mem_map.mp h
    exact .inr ⟨kv', h1, by split <;> rfl⟩
  · rcases List.mem_append.mp h with z | z
    · exact .inr ⟨kv, z, rfl⟩
    · rw [List.mem_singleton.mp z]; exact .inl rfl
theorem tr_putT (g : Good u N sc k X) (nm : Nm sc Vn G) {i j : Nat} {l : Bool} {φ : Rat → Prop} {n : Nat} {q : Rat} (hN : At N i x) (hV : At Vn j x) (hΓ : Γ[i]? = some (.own l (ownDT φ n))) (he : J X Z Γ e P) (hb : J X Z Γ b (isPtt q)) (hq : φ q) (hn : n ≤ 1000) {ps : Pos}
    (hs : swapsWith e (some (.Subscript (.Name x p) b ps)) pos.line X.env = pure false)
    (h : Tr X Z (Γ.set i (.own l (ownDT φ (n + 1)))) rest D) : Tr X Z Γ (.Assign [.Subscript (.Name x p) b ps] e pos :: rest) D := by
  have hv := nm.var hV
  have hN := hN.get
  obtain ⟨rfl, rfl, rfl, -, hr, -, -⟩ := g
  obtain ⟨h1, h2, h3⟩ := okVar_vis hv
  refine tr_of (pss_cons (ps_dput (by have := hr.units; omega) (pe_var hN h1 h2 h3) peW peW hs) pssW) fun own σ H g => he own σ H g _ fun v H1 s1 p1 => ?_
  obtain ⟨q1, o, e1, m1, e2, kvs, rfl, hl, hk⟩ := g.slot hΓ
  refine ⟨.ref q1, e1, hb own σ H1 (g.grow s1) _ fun w H2 s2 p2 => ?_⟩
  obtain ⟨a, rfl, ha⟩ := ptt_kV p2
  refine ⟨q1, _, rfl, DPut.t ((s1.trans s2) _ _ e2) (hid_some ha).2 (by rw [sizeLine_eq]; omega), ?_⟩
  refine h own σ _ ((g.grow (s1.trans s2)).write hΓ e1 ⟨_, rfl, Nat.le_trans (length_putK _ _ _) (by omega), fun kv hkv => ?_⟩)
  rcases mem_putK hkv with z | ⟨kv', z1, z2⟩
  · exact ⟨q, hq, z⟩
  · obtain ⟨q', hq', e⟩ := hk kv' z1
    exact ⟨q', hq', by rw [← z2, e]⟩
/-- for key in x, x such a dict -/
theorem tr_forT {α : Type} (g : Good u N sc k X) (nm : Nm sc Vn G) {i0 j0 : Nat} {φ : Rat → Prop} {n : Nat} {body : List Stmt} (hN : At N i0 x) (hV : At Vn j0 x) (hΓ : Γ[i0]? = some (.own true (ownDT φ n)))
    (Go : Nat → α → List Ty) (ψ : Nat → α → Prop) (a0 : α) (h0 : ψ 0 a0) (hs0 : Sub (Γ.set i0 .any) (Go 0 a0))
    (hs : ∀ (i : Nat) (q : Rat) (a : α) (Z' : Zn), i < n → φ q → ψ i a → ∃ l, JG X Z' (Go i a) tg (isPtt q) l ∧
      Tr X Z' (setAll (Go i a) l) body { nx := InD Z' (Go (i + 1)) (ψ (i + 1)), ct := InD Z' (Go (i + 1)) (ψ (i + 1)), bk := fun _ _ => False, rt := fun _ _ => False })
    (hd : ∀ a m, m ≤ n → ψ m a → Tr X Z (Go m a) rest D) (hf : ∀ z, foldedSetIterable (.Name x p) X.env z = pure z) : Tr X Z Γ (.For tg (.Name x p) body [] pos :: rest) D := by
  have hv := nm.var hV
  have hN := hN.get
  obtain ⟨rfl, rfl, rfl, hc, -, hx, -⟩ := g
  obtain ⟨v1, v2, v3⟩ := okVar_vis hv
  refine tr_of (pss_cons (ps_lock (ps_for (by rw [hx]; exact PassesOwn.never) hc (pi_keys (pe_var hN v1 v2 v3)) pgW pssW hf)) pssW) fun own σ H g => ?_
  obtain ⟨d, o, e1, m1, e2, kvs, rfl, hl, hk⟩ := g.slot hΓ
  refine ⟨d, _, e2, trivial, fun od => ⟨.ref d, e1, d, od, rfl, .inr ⟨kvs, upd_same, ?_⟩⟩⟩
  obtain ⟨gl, z0, nM⟩ := g.lock (o := .frz od (.dT kvs)) (fun vs z => nomatch z) hΓ e1
  have gG := gl.more
  generalize hZ' : ({ lkZ Z d (.frz od (.dT kvs)) with G := hid own (upd H d (.frz od (.dT kvs))) } : Zn) = Z' at gG
  have loc : ∀ {own' Γ' σ' H'}, StO Z' own' Γ' σ' H' → H' d = some (.frz od (.dT kvs)) := fun g' => by subst hZ'; exact g'.keep d _ upd_same nM
  refine ⟨fun i m σ H => m = kvs.length - i ∧ i ≤ kvs.length ∧ InD Z' (Go i) (ψ i) σ H, ⟨kvs.length, by simp, Nat.zero_le _, a0, own, h0, gG.sub hs0⟩, ?_⟩
  rintro i m σ' H' ⟨rfl, hi, a, own', hI, g'⟩
  have hd' := loc g'
  by_cases hlt : i < kvs.length
  · refine .inr ⟨⟨hd', hlt⟩, InD Z' (Go (i + 1)) (ψ (i + 1)), fun σ2 H2 h2 => ⟨kvs.length - (i + 1), by omega, rfl, hlt, h2⟩, fun v H2 y => ?_⟩
    obtain ⟨rfl, kk, w, q', hkv, rfl, hq'⟩ := y
    obtain ⟨q, hq, ek⟩ := hk _ (List.mem_of_getElem? hkv)
    obtain ⟨l, jg, tb⟩ := hs i q a Z' (Nat.lt_of_lt_of_le hlt hl) hq hI
    have hq1 : q' ∉ own' := fun z => (g'.dom q' z).2 _ hq'
    have e1' : kk = [Sum.inl q.num, Sum.inl (q.den : Int)] := ek
    subst e1'
    refine jg own' σ' H2 _ g' ⟨q', _, rfl, (hid_out hq1).trans hq', .cons rfl (.cons rfl .nil)⟩ _ fun σ3 g3 _ => ?_
    have t := tb own' σ3 H2 g3
    exact tWs_mono t (fun _ _ z => z) (fun _ _ z => z.elim) (fun _ _ z => z.elim) (fun _ _ z => z)
  · obtain rfl : i = kvs.length := by omega
    refine .inl ⟨⟨hd', Nat.le_refl _⟩, hd', ?_⟩
    have gu : StO Z own' (Go kvs.length a) σ' (upd H' d (.dT kvs)) := by
      subst hZ'
      exact (StO.unlock (Z := Z) (v := .dT kvs) (fun vs z => nomatch z) (g'.less (G := Z.G) gl.gh) z0 nM g.dO g.mo).1
    exact hd a _ hl hI own' σ' _ gu
end
end Wd

end

section
set_option maxRecDepth 100000
set_option maxHeartbeats 4000000
namespace Wd
open PySem PySem.Spec L2

/-! ### instances -/
inductive Flds (S : Hp) : List (Str × Pr) → List (Str × V) → Prop
  | nil : Flds S [] []
  | cons {f : Str} {P : Pr} {v : V} {fs : List (Str × Pr)} {vs : List (Str × V)} : P.p S v → Flds S fs vs → Flds S ((f, P) :: fs) ((f, v) :: vs)
theorem Flds.mono {S S' : Hp} (s : Same S S') : ∀ {fs : List (Str × Pr)} {vs : List (Str × V)}, Flds S fs vs → Flds S' fs vs
  | _, _, .nil => .nil
  | _, _, .cons (P := P) h t => .cons (P.mono s h) (t.mono s)
theorem Flds.get {S : Hp} {f : Str} {P : Pr} : ∀ {fs : List (Str × Pr)} {vs : List (Str × V)}, Flds S fs vs → fs.lookup f = some P → ∃ v, vs.lookup f = some v ∧ P.p S v
  | _, _, .nil, h => by cases h
  | _, _, .cons (f := g) (P := Q) (v := v) (fs := fs) (vs := vs) h t, e => by
    rw [List.lookup_cons] at e
    rw [List.lookup_cons]
    cases z : f == g with
    | true => rw [z] at e; cases e; exact ⟨v, rfl, h⟩
    | false => rw [z] at e; exact t.get e
theorem Flds.no {S : Hp} {f : Str} : ∀ {fs : List (Str × Pr)} {vs : List (Str × V)}, Flds S fs vs → fs.lookup f = none → vs.lookup f = none
  | _, _, .nil, _ => rfl
  | _, _, .cons (f := g) h t, e => by
    rw [List.lookup_cons] at e
    rw [List.lookup_cons]
    cases z : f == g with
    | true => rw [z] at e; cases e
    | false => rw [z] at e; exact t.no e
theorem Flds.length {S : Hp} : ∀ {fs : List (Str × Pr)} {vs : List (Str × V)}, Flds S fs vs → fs.length = vs.length
  | _, _, .nil => rfl
  | _, _, .cons h t => congrArg (· + 1) t.length
def putP (f : Str) (P : Pr) : List (Str × Pr) → List (Str × Pr)
  | [] => [(f, P)]
  | (g, x) :: r => if g = f then (g, P) :: r else (g, x) :: putP f P r
theorem Flds.put {S : Hp} {f : Str} {P : Pr} {v : V} (hp : P.p S v) : ∀ {fs : List (Str × Pr)} {vs : List (Str × V)}, Flds S fs vs → Flds S (putP f P fs) (putF f v vs)
  | _, _, .nil => .cons hp .nil
  | _, _, .cons (f := g) h t => by
    unfold putP putF
    by_cases z : g = f
    · rw [if_pos z, if_pos z]; exact .cons hp t
    · rw [if_neg z, if_neg z]; exact .cons h (t.put hp)
def isIns (C : Addr) (fs : List (Str × Pr)) : Pr := ⟨fun S v => ∃ a dx vs, v = .ref a ∧ S a = some (.ins C dx vs) ∧ Flds S fs vs, fun s ⟨a, dx, vs, e, h, q⟩ => ⟨a, dx, vs, e, s _ _ h, q.mono s⟩⟩
def ownI (C : Addr) (fs : List (Str × Pr)) : Ct := ⟨fun S o => ∃ dx vs, o = .ins C dx vs ∧ Flds S fs vs, fun s ⟨dx, vs, e, q⟩ => ⟨dx, vs, e, q.mono s⟩, fun ⟨_, _, e, _⟩ vs z => by subst e; cases z⟩
theorem own_I {C : Addr} {fs : List (Str × Pr)} (S : Hp) (p : Addr) (o : HO) (h : S p = some o) (c : (ownI C fs).c S o) : (isIns C fs).p S (.ref p) := by
  obtain ⟨dx, vs, e, q⟩ := c
  subst e
  exact ⟨p, dx, vs, rfl, h, q⟩
/-- what a class of one's own has -/
structure CF (K : PySem.W.Frag) (fn : List Str) (C : Addr) : Prop where
  cls : Cls K C
  na : ∀ f ∈ fn, NoAttr K C f
  ha : PySem.W.findIn K (.ref C) "__class__" = some (some (.builtin "object.__class__"))
  hn : PySem.W.specialIn K (.builtin "object.__class__") "__get__" = some (some (.builtin "getset_descriptor.__get__"))
  htk : PySem.W.takesIn K (.builtin "object.__class__") = some true
  hm : PySem.W.mroIn K C (.type "object") = some true
section
variable {u : Uni} {N Vn G fn : List Str} {sc : Scope} {k : Nat} {X : Cx} {Z : Zn} {Γ : List Ty} {a b c e elt tg iter : Expr} {es : List Expr} {P P1 P2 P3 ret : Pr} {Ps Qs : List Pr} {pos p apos : Pos} {x f m : Str} {D : Ends} {rest A B sts : List Stmt} {σ : L2.St} {H : Hp} {own : List Addr} {C : Addr} {fs fs0 fs1 : List (Str × Pr)} {sp : Sp}
theorem ty_ins {K : PySem.W.Frag} (c : CF K fn C) : HasTy K (isIns C fs) (.ref C) := fun S v ⟨a, dx, vs, e, h, _⟩ => by rw [e]; exact .base (.ins h c.cls c.ha c.hn c.htk c.hm)
theorem j_fld (g : Good u N sc k X) (c : CF u.K fn C) {i : Nat} (hn : At fn i f) (he : J X Z Γ a (isIns C fs)) (hf : fs.lookup f = some P) (hb : attributeBase a f X.env (eval a X.env) = eval a X.env) : J X Z Γ (.Attribute a f pos) P := by
  obtain ⟨rfl, -, -, -, -, -, -⟩ := g
  refine j_of (pe_fld peW hb) fun own σ H g Q q => he own σ H g _ fun v H1 s1 ⟨ad, dx, vs, e, h1, h2⟩ => ?_
  obtain ⟨w, l1, l2⟩ := h2.get hf
  exact ⟨ad, C, dx, vs, w, e, (hid_some h1).2, c.cls, c.na f hn.mem, l1, q w H1 s1 l2⟩
/-- a method of the class -/
structure MC (u : Uni) (C : Addr) (m : Str) (k : Nat) (sp : Sp) : Prop where
  ex : ∃ f fd ps, Cls u.K C ∧ Meth u.K C m f ∧ Binds u.K fd ps [] ∧ FnOk u.P u.w u.K u.mg u.base CX0 k f fd ps sp
theorem j_meth0 {pl : Sem Bool} (g : Good u N sc k X) {j : Nat} (M : MC u C m j sp) (hj : j ≤ k) (hsp : ∀ vs H Q, Pf [isIns C fs] ret vs H Q → sp vs H Q E0) (he : J X Z Γ a (isIns C fs)) (hl : fs.lookup m = none)
    (ht : eval (.Call (.Attribute a m apos) [] [] pos) X.env = (do
      let ov ← eval a X.env
      standAt apos.atName
      let (f, first) ← holding [ov] (getMethod ov m pl)
      callWith pos f first (backTo pos (starEach [] X.env)) (backToKw pos (keywordEach [] X.env)))) : J X Z Γ (.Call (.Attribute a m apos) [] [] pos) ret := by
  obtain ⟨rfl, -, -, -, hr, -, -⟩ := g
  obtain ⟨f, fd, ps, h1, h2, h3, h4⟩ := M.ex
  refine j_of (pe_meth0 (pl := pl) peW h1 h2 h4 (hr.mono hj) h3 .nil pass0 ht) fun own σ H g Q q => he own σ H g _ fun v H1 s1 ⟨ad, dx, vs, e, q1, q2⟩ => ?_
  refine ⟨ad, dx, vs, e, (hid_some q1).2, q2.no hl, ?_⟩
  exact hsp _ _ _ ⟨own, (g.grow s1).dom, .cons ⟨ad, dx, vs, e, q1, q2⟩ .nil, fun v H' s p => q v H' (s1.trans s) p⟩
theorem j_meth {pl : Sem Bool} (g : Good u N sc k X) {j : Nat} (M : MC u C m j sp) (hj : j ≤ k) (hsp : ∀ vs H Q, Pf (isIns C fs :: Ps) ret vs H Q → sp vs H Q E0) (he : J X Z Γ a (isIns C fs)) (hl : fs.lookup m = none) (ha : JA X Z Γ (e :: es) Ps)
    (hst : starEach (e :: es) X.env = (false, eval e X.env) :: starEach es X.env) (hpl : (backTo pos (starEach es X.env)).any (·.1) = false)
    (ht : eval (.Call (.Attribute a m apos) (e :: es) [] pos) X.env = (do
      let ov ← eval a X.env
      standAt apos.atName
      let (f, first) ← holding [ov] (getMethod ov m pl)
      callWith pos f first (backTo pos (starEach (e :: es) X.env)) (backToKw pos (keywordEach [] X.env)))) : J X Z Γ (.Call (.Attribute a m apos) (e :: es) [] pos) ret := by
  obtain ⟨rfl, -, -, -, hr, -, -⟩ := g
  obtain ⟨f, fd, ps, h1, h2, h3, h4⟩ := M.ex
  obtain ⟨t, a1, a2⟩ := ha
  refine j_of (pe_meth (pl := pl) peW h1 h2 h4 (hr.mono hj) h3 .nil pass0 a1 hst hpl ht) fun own σ H g Q q => he own σ H g _ fun v H1 s1 ⟨ad, dx, vs, e, q1, q2⟩ => ?_
  refine ⟨ad, dx, vs, e, (hid_some q1).2, q2.no hl, a2 own σ H1 (g.grow s1) _ fun ws H2 s2 p2 => ?_⟩
  rw [List.append_nil]
  exact hsp _ _ _ ⟨own, (g.grow (s1.trans s2)).dom, .cons ((isIns C fs).mono (hid_grow s2) ⟨ad, dx, vs, e, q1, q2⟩) p2, fun v H' s p => q v H' ((s1.trans s2).trans s) p⟩

/-! ### __init__ -/
/-- the promise of a def that changes its first argument alone, an instance -/
def Pi (C : Addr) (fs0 : List (Str × Pr)) (Ps : List Pr) (fs1 : List (Str × Pr)) (vs : List V) (H : Hp) (Q : VK) : Prop := ∃ own p vs' o, vs = .ref p :: vs' ∧ (∀ a ∈ own, Live (H a)) ∧ p ∈ own ∧ H p = some o ∧ (ownI C fs0).c (hid own H) o ∧ All (hid own H) Ps vs' ∧
  ∀ H' o', (∀ a w, a ≠ p → H a = some w → H' a = some w) → H' p = some o' → (ownI C fs1).c (hid own H') o' → Q .non H'
structure MkC (u : Uni) (x : Str) (C : Addr) (k : Nat) (sp : Sp) : Prop where
  ex : ∃ f fd ps, u.mg x = some (.ref C) ∧ Mk u.K C f ∧ Binds u.K fd ps [] ∧ FnOk u.P u.w u.K u.mg u.base CX0 k f fd ps sp
theorem jn_make (g : Good u N sc k X) {j : Nat} (M : MkC u x C j sp) (hj : j + 1 ≤ k) (hsp : ∀ vs H Q, Pi C [] Ps fs1 vs H Q → sp vs H Q E0) (ha : JA X Z Γ (e :: es) Ps) (hg : okGl sc x = true)
    (he : starEach (e :: es) X.env = (false, eval e X.env) :: starEach es X.env) (hpl : (backTo pos (starEach es X.env)).any (·.1) = false) : JN X Z Γ (.Call (.Name x p) (e :: es) [] pos) (ownI C fs1) := by
  obtain ⟨rfl, -, rfl, -, hr, -, -⟩ := g
  obtain ⟨f, fd, ps, h1, h2, h3, h4⟩ := M.ex
  obtain ⟨t, a1, a2⟩ := ha
  obtain ⟨g1, g2, _⟩ := okGl_gl hg
  refine jn_of (pe_make h2 h4 (hr.mono hj) g1 h1 h3 .nil pass0 a1 g2 he hpl) fun own σ H g Q q => a2 own σ H g _ fun ws H1 s1 p1 => ?_
  intro nx dx n1 n2 ne
  rw [List.append_nil]
  have g1 := g.grow s1
  have sm : Same H1 (upd (upd H1 dx (.own nx)) nx (.ins C dx [])) := fun b w e => by
    rw [upd_ne (ne_of_none e n1), upd_ne (ne_of_none e n2)]; exact e
  have nOwn : nx ∉ own := fun z => (g1.dom nx z).1 n1
  have hm : Same (hid own H1) (hid (nx :: own) (upd (upd H1 dx (.own nx)) nx (.ins C dx []))) := hid_new n1 sm
  refine hsp _ _ _ ⟨nx :: own, nx, ws, _, rfl, fun a ha => ?_, List.mem_cons_self, upd_same, ⟨dx, [], rfl, .nil⟩, p1.mono hm, fun H' o' k1 k2 k3 => ⟨rfl, ?_⟩⟩
  · rcases List.mem_cons.mp ha with rfl | ha
    · rw [upd_same]; exact live_of fun vs z => nomatch z
    · exact ((g1.grow sm).dom a ha)
  · refine q nx o' H' (s1.trans fun b w e => k1 b w (ne_of_none e n1) (sm b w e)) (L2.Same.free s1 n1) k2 k3
/-- C.m(..), C a class of one's own -/
theorem pe_clsCall {X : Cx} {CX : CXT} {k : Nat} {C f : Addr} {mc : Value} {fd : FuncData} {ps : List Str} {sp : Sp} {E : XK} {ta : TE} {t : TA} {o : Expr} {pl : Sem Bool} (he : PE X o ta) (r : ClX.CRead X.K C mc) (c : PySem.W.findCls X.K (.ref C) mc m = some (.val (.ref f))) (hk : PySem.W.keepIn X.K (.ref f) = true) (F : FnOk X.prog X.w X.K X.mg X.base CX k f fd ps sp)
    (hr : Room k X.A) (hb : Binds X.K fd ps []) (hx : Passes CX X E) (ha : PA X (e :: es) t)
    (hst : starEach (e :: es) X.env = (false, eval e X.env) :: starEach es X.env) (hpl : (backTo pos (starEach es X.env)).any (·.1) = false)
    (ht : eval (.Call (.Attribute o m apos) (e :: es) [] pos) X.env = (do
      let ov ← eval o X.env
      standAt apos.atName
      let (f, first) ← holding [ov] (getMethod ov m pl)
      callWith pos f first (backTo pos (starEach (e :: es) X.env)) (backToKw pos (keywordEach [] X.env)))) :
    PE X (.Call (.Attribute o m apos) (e :: es) [] pos) (fun σ H Q => ta σ H fun x H1 => x = .ref C ∧ t σ H1 fun vs H2 => sp vs H2 Q E) := by
  refine ⟨fun pins s σ H Q I h => ?_⟩
  refine PySem.W.methodCall_KW (pl := pl) (thn (he.run pins s σ H _ I h) fun u s1 ⟨x, H1, I1, rx, ex, q⟩ => ?_) ht
  subst ex
  obtain rfl : u = Value.ref C := rx
  refine PySem.W.method_cls I1.kIn r.ga (PySem.W.cls_value I1.kIn r.rd c rfl ?_)
  have I2 := I1.tok (s1.toks + 1)
  refine PySem.W.callWith_K (first := []) (h₀ := X.base) I2.ok.mod.kin hk (thn (ha.run pos pins _ σ H1 _ I2 q) fun us s2 ⟨vs, H2, I3, rr, q2⟩ => ⟨I3.kIn, ?_⟩) hst hpl
  have z : sp (vs ++ []) H2 Q E := by rw [List.append_nil]; exact q2
  exact run_fn (dvs := []) (ds := []) F hr hb .nil hx I3 rr z
/-- .. named so -/
structure IC (u : Uni) (x : Str) (m : Str) (k : Nat) (sp : Sp) : Prop where
  ex : ∃ C mc f fd ps, u.mg x = some (.ref C) ∧ ClX.CRead u.K C mc ∧ PySem.W.findCls u.K (.ref C) mc m = some (.val (.ref f)) ∧ PySem.W.keepIn u.K (.ref f) = true ∧ Binds u.K fd ps [] ∧ FnOk u.P u.w u.K u.mg u.base CX0 k f fd ps sp
/-- x.m(self, ..): the instance in slot i is changed -/
theorem tr_icall {pl : Sem Bool} {y : Str} {py pos2 : Pos} (g : Good u N sc k X) {j : Nat} (M : IC u x m j sp) (hj : j ≤ k) {i : Nat} {l : Bool} (hN : N[i]? = some y) (hv : okVar sc y = true) (hΓ : Γ[i]? = some (.own l (ownI C fs0))) (hsp : ∀ vs H Q, Pi C fs0 Ps fs1 vs H Q → sp vs H Q E0) (ha : JA X Z Γ es Ps) (hg : okGl sc x = true)
    (hst : starEach (.Name y py :: es) X.env = (false, eval (.Name y py) X.env) :: starEach es X.env) (hpl : (backTo pos (starEach es X.env)).any (·.1) = false)
    (ht : eval (.Call (.Attribute (.Name x p) m apos) (.Name y py :: es) [] pos) X.env = (do
      let ov ← eval (.Name x p) X.env
      standAt apos.atName
      let (f, first) ← holding [ov] (getMethod ov m pl)
      callWith pos f first (backTo pos (starEach (.Name y py :: es) X.env)) (backToKw pos (keywordEach [] X.env))))
    (hsw : swapsWith (.Call (.Attribute (.Name x p) m apos) (.Name y py :: es) [] pos) none pos2.line X.env = pure false)
    (h : Tr X Z (Γ.set i (.own l (ownI C fs1))) rest D) : Tr X Z Γ (.Expr (.Call (.Attribute (.Name x p) m apos) (.Name y py :: es) [] pos) pos2 :: rest) D := by
  obtain ⟨rfl, rfl, rfl, -, hr, -, -⟩ := g
  obtain ⟨C0, mc, f, fd, ps, q1, q2, q3, q4, q5, q6⟩ := M.ex
  obtain ⟨t, a1, a2⟩ := ha
  obtain ⟨g1, g2, _⟩ := okGl_gl hg
  obtain ⟨v1, v2, v3⟩ := okVar_vis hv
  refine tr_of (pss_cons (ps_expr (pe_clsCall (pl := pl) (pe_glob (v := V.ref C0) g1 q1 rfl g2) q2 q3 q4 q6 (hr.mono hj) q5 pass0 (pa_cons (pe_var hN v1 v2 v3) a1 hst) hst hpl ht) hsw) pssW) fun own σ H g => ?_
  obtain ⟨pp, o, e1, m1, e2, cc⟩ := g.slot hΓ
  refine ⟨rfl, .ref pp, e1, a2 own σ H g _ fun ws H1 s1 p1 => ?_⟩
  have g1 := g.grow s1
  refine hsp _ _ _ ⟨own, pp, ws, o, rfl, g1.dom, m1, s1 _ _ e2, (ownI C fs0).mono (hid_grow s1) cc, p1, fun H' o' k1 k2 k3 => ?_⟩
  have sm : Same H1 (upd H' pp o) := fun b w e => by
    by_cases z : b = pp
    · subst z
      rw [upd_same]; rw [← s1 _ _ e2]; exact e
    · rw [upd_ne z]; exact k1 b w z e
  have hh : hid own (upd H' pp o) = hid own H' := hid_upd m1
  have gw := (g1.grow sm).write (C' := ownI C fs1) (o := o') hΓ e1 (by rw [hh]; exact k3)
  rw [upd_upd] at gw
  have e : upd H' pp o' = H' := by
    funext b
    by_cases z : b = pp
    · subst z; rw [upd_same]; exact k2.symm
    · rw [upd_ne z]
  rw [e] at gw
  exact h own σ H' gw
/-- self.f = e -/
theorem tr_fldset (g : Good u N sc k X) (c : CF u.K fn C) {j : Nat} (hn : At fn j f) {i : Nat} {l : Bool} {y : Str} {py pf : Pos} (hN : N[i]? = some y) (hv : okVar sc y = true) (hΓ : Γ[i]? = some (.own l (ownI C fs))) (hl : fs.length ≤ 100) (he : J X Z Γ e P)
    (hs : swapsWith e (some (.Attribute (.Name y py) f pf)) pos.line X.env = pure false) (h : Tr X Z (Γ.set i (.own l (ownI C (putP f P fs)))) rest D) : Tr X Z Γ (.Assign [.Attribute (.Name y py) f pf] e pos :: rest) D := by
  obtain ⟨rfl, rfl, rfl, -, hr, -, -⟩ := g
  obtain ⟨v1, v2, v3⟩ := okVar_vis hv
  refine tr_of (pss_cons (ps_fld (pe_var hN v1 v2 v3) peW hs) pssW) fun own σ H g => he own σ H g _ fun v H1 s1 p1 => ?_
  obtain ⟨pp, o, e1, m1, e2, dx, vs, rfl, hf⟩ := g.slot hΓ
  have hf1 := hf.mono (hid_grow s1)
  refine ⟨.ref pp, e1, pp, C, dx, vs, rfl, s1 _ _ e2, c.cls, c.na f hn.mem, by rw [← hf.length]; omega, ?_⟩
  exact h own σ _ ((g.grow s1).write (C' := ownI C (putP f P fs)) hΓ e1 ⟨dx, _, rfl, hf1.put p1⟩)
/-- self.f, self an owned instance -/
theorem j_fldO (g : Good u N sc k X) (c : CF u.K fn C) {j : Nat} (hn : At fn j f) {i : Nat} {l : Bool} {y : Str} {py : Pos} (hN : N[i]? = some y) (hv : okVar sc y = true) (hΓ : Γ[i]? = some (.own l (ownI C fs))) (hf : fs.lookup f = some P) (hb : attributeBase (.Name y py) f X.env (eval (.Name y py) X.env) = eval (.Name y py) X.env) :
    J X Z Γ (.Attribute (.Name y py) f pos) P := by
  obtain ⟨rfl, rfl, rfl, -, -, -, -⟩ := g
  obtain ⟨v1, v2, v3⟩ := okVar_vis hv
  refine j_of (pe_fld (pe_var hN v1 v2 v3) hb) fun own σ H g Q q => ?_
  obtain ⟨pp, o, e1, m1, e2, dx, vs, rfl, h2⟩ := g.slot hΓ
  obtain ⟨w, l1, l2⟩ := h2.get hf
  exact ⟨.ref pp, e1, pp, C, dx, vs, w, rfl, e2, c.cls, c.na f hn.mem, l1, q w H (.refl H) l2⟩
/-- the ends of such a def -/
def DRi (Z : Zn) (C : Addr) (fs : List (Str × Pr)) : Ends := { nx := fun σ H => ∃ own Γ G, StO { Z with G := G } own Γ σ H ∧ Γ[0]? = some (.own false (ownI C fs)), rt := fun v H => v = .non ∧ ∃ own Γ σ G, StO { Z with G := G } own Γ σ H ∧ Γ[0]? = some (.own false (ownI C fs)) }
theorem tr_offI (h : Γ[0]? = some (.own false (ownI C fs))) : Tr X Z Γ [] (DRi Z C fs) := tr_nil fun own σ H g => ⟨own, Γ, _, g, h⟩
def startI (N : List Str) (C : Addr) (fs : List (Str × Pr)) (Ps : List Pr) : List Ty := .own false (ownI C fs) :: (Ps.map Ty.val ++ List.replicate (N.length - 1 - Ps.length) Ty.any)
theorem start_okI {p : Addr} {o : HO} {vs : List V} {n : Nat} (dom : ∀ a ∈ own, Live (H a)) (hp : p ∈ own) (ho : H p = some o) (hc : (ownI C fs).c (hid own H) o) (h : All (hid own H) Ps vs) (hl : Ps.length + 1 ≤ n) :
    StO { H0 := H, O := own, M := [p] } own (.own false (ownI C fs) :: (Ps.map Ty.val ++ List.replicate (n - 1 - Ps.length) Ty.any)) ((V.ref p :: vs).map some ++ List.replicate (n - (V.ref p :: vs).length) none) H where
  dom := dom
  old := fun _ h => h
  new := fun _ h => .inl h
  keep := fun _ _ h _ => h
  at_ := fun i T e => by
    cases i with
    | zero =>
      cases e
      exact ⟨p, o, rfl, hp, fun z => (nomatch z), fun _ => List.mem_cons_self, ho, hc⟩
    | succ i =>
      have := start_at (Z := { H0 := H, O := own, M := [p] }) h (n - 1) i T (by simpa using e)
      have e2 : n - (V.ref p :: vs).length = n - 1 - vs.length := by rw [List.length_cons]; omega
      rw [e2]
      simpa [List.getD_eq_getElem?_getD] using this
  uniq := fun i j l l' C1 C1' p1 h1 h2 _ _ => by
    have key : ∀ (i : Nat) (l : Bool) (C0 : Ct), (Ty.own false (ownI C fs) :: (Ps.map Ty.val ++ List.replicate (n - 1 - Ps.length) Ty.any))[i]? = some (.own l C0) → i = 0 := fun i l C0 h => by
      cases i with
      | zero => rfl
      | succ i =>
        have q := List.mem_of_getElem? (show (Ps.map Ty.val ++ List.replicate (n - 1 - Ps.length) Ty.any)[i]? = _ from by simpa using h)
        rcases List.mem_append.mp q with z | z
        · obtain ⟨P, _, e⟩ := List.mem_map.mp z; cases e
        · have := (List.mem_replicate.mp z).2; cases this
    rw [key i l C1 h1, key j l' C1' h2]
  len := by
    rw [List.length_cons, List.length_append, List.length_append, List.length_map, List.length_map, List.length_replicate, List.length_replicate, List.length_cons, ← h.length]; omega
  gh := fun _ _ z => nomatch z
  mo := fun _ z => by rw [List.mem_singleton.mp z]; exact hp
  dO := fun a ha => (dom a ha).1
/-- THE RULE for a def that changes its first argument alone, an instance -/
theorem fn_init {qual : Str} {st : Stmt} {ps : List Str} {f : Addr} {fd : FuncData} (F : FunD u.K x qual (defArgs st) (defBody st) (defScope st) [] [] f fd) (S : FnScope N ps (defScope st))
    (h : ∀ vs H Q, sp vs H Q E0 → ∃ C fs0 Ps fs1, Ps.length + 1 = ps.length ∧ Pi C fs0 Ps fs1 vs H Q ∧ ∀ X Z, Good u N (defScope st) k X → (∀ x, X.fn x = true) → Tr X Z (startI N C fs0 Ps) (defBody st) (DRi Z C fs1))
    (hE : ∀ vs H Q E, sp vs H Q E → sp vs H Q E0) : FnOk u.P u.w u.K u.mg u.base CX0 (k + 1) f fd ps sp := by
  refine FunD.ok F S (fun vs H Q E q => ?_) fun cdv A outer s H vs Q E hr q => ?_
  · obtain ⟨C, fs0, Ps, fs1, h1, ⟨own, p, vs', o, rfl, _, _, _, _, h2, _⟩, _⟩ := h vs H Q (hE _ _ _ _ q)
    rw [List.length_cons, ← h2.length, h1]
  · obtain ⟨C, fs0, Ps, fs1, h1, ⟨own, p, vs', o, rfl, d, k1, k2, k3, h2, h3⟩, h4⟩ := h vs H Q (hE _ _ _ _ q)
    let X := (cxOf CX0 u.P u.w u.K u.mg u.base N qual (defScope st) f cdv A outer s H E).nox
    have G : Good u N (defScope st) k X := ⟨rfl, rfl, rfl, rfl, hr, rfl, S.nd⟩
    have hl : Ps.length + 1 ≤ N.length := by
      have := congrArg List.length S.pre
      rw [List.length_take] at this
      omega
    have T := h4 X { H0 := H, O := own, M := [p] } G (fun _ => rfl) own _ H (start_okI (n := N.length) d k1 k2 k3 h2 hl)
    have fin : ∀ {own' Γ' σ' H' G'}, StO { H0 := H, O := own, M := [p], G := G' } own' Γ' σ' H' → Γ'[0]? = some (.own false (ownI C fs1)) → Q .non H' := fun {own' Γ' σ' H' G'} g e => by
      obtain ⟨p', o', f1, f2, _, f4, f5, f6⟩ := g.at_ 0 _ e
      obtain rfl : p' = p := List.mem_singleton.mp (f4 rfl)
      exact h3 H' o' (fun a w ne hw => g.keep a w hw (fun z => ne (List.mem_singleton.mp z))) f5 ((ownI C fs1).mono (hid_mono g.old (.refl H')) f6)
    refine ⟨tWs X (defBody st), PSs.nox pssW, fun pins s' I => thn (T pins s' I) fun fl s2 z => SP.mono' z (fun σ H' ⟨own', Γ', _, g, r⟩ => ?_) (fun v H' ⟨e, own', Γ', σ', _, g, r⟩ => ?_) (fun _ _ z => z) (fun _ _ z => z)⟩
    · exact fin g r
    · subst e; exact fin g r
/-- THE RULE for a method that changes nothing, or any def -/
theorem fn_pureF {qual : Str} {st : Stmt} {ps : List Str} {f : Addr} {fd : FuncData} (F : FunD u.K x qual (defArgs st) (defBody st) (defScope st) [] [] f fd) (S : FnScope N ps (defScope st))
    (h : ∀ vs H Q, sp vs H Q E0 → ∃ Ps ret, Ps.length = ps.length ∧ Pf Ps ret vs H Q ∧ ∀ X Z, Z.M = [] → Good u N (defScope st) k X → (∀ x, X.fn x = true) → Tr X Z (startG N Ps) (defBody st) (DRz Z ret))
    (hE : ∀ vs H Q E, sp vs H Q E → sp vs H Q E0) : FnOk u.P u.w u.K u.mg u.base CX0 (k + 1) f fd ps sp := by
  refine FunD.ok F S (fun vs H Q E q => ?_) fun cdv A outer s H vs Q E hr q => ?_
  · obtain ⟨Ps, ret, h1, ⟨own, _, h2, _⟩, _⟩ := h vs H Q (hE _ _ _ _ q)
    rw [← h2.length, h1]
  · obtain ⟨Ps, ret, h1, ⟨own, d, h2, h3⟩, h4⟩ := h vs H Q (hE _ _ _ _ q)
    let X := (cxOf CX0 u.P u.w u.K u.mg u.base N qual (defScope st) f cdv A outer s H E).nox
    have G : Good u N (defScope st) k X := ⟨rfl, rfl, rfl, rfl, hr, rfl, S.nd⟩
    have hl : Ps.length ≤ N.length := by
      have := congrArg List.length S.pre
      rw [List.length_take] at this
      omega
    have T := h4 X { H0 := H, O := own, M := [] } rfl G (fun _ => rfl) own _ H (start_ok d h2 hl)
    refine ⟨tWs X (defBody st), PSs.nox pssW, fun pins s' I => thn (T pins s' I) fun fl s2 z => SP.mono' z (fun σ H' ⟨own', Γ', _, g, r⟩ => ?_) (fun v H' ⟨own', Γ', σ', _, g, r⟩ => ?_) (fun _ _ z => z) (fun _ _ z => z)⟩
    · exact h3 _ H' (g.same rfl) (ret.mono (hid_mono g.old (.refl H')) r)
    · exact h3 v H' (g.same rfl) (ret.mono (hid_mono g.old (.refl H')) r)
end
end Wd

end

section
set_option maxRecDepth 100000
set_option maxHeartbeats 4000000
namespace Wd
open PySem PySem.Spec L2
section
variable {u : Uni} {N Vn G : List Str} {sc : Scope} {k : Nat} {X : Cx} {Z : Zn} {Γ : List Ty} {a b c e elt tg iter : Expr} {es : List Expr} {P P1 P2 P3 : Pr} {Ps Qs : List Pr} {pos p apos : Pos} {x : Str} {D : Ends} {rest A B sts : List Stmt} {σ : L2.St} {H : Hp} {own : List Addr}
/-! ### in -/
theorem cmp_inL (g : Good u N sc k X) {d : PyData} {ds : List PyData} {r : Bool} (h1 : DatP u.K P1 d) (h2 : DatP u.K P2 (.list ds)) (s1 : SeqAt.shaped d = true) (s2 : SeqAt.shaped (.list ds) = true) (hb : (ds.any fun z => PyData.eqv z d) = r) : CmpR X .In P1 P2 r := by
  obtain ⟨rfl, -, -, -, hr, -, -⟩ := g
  exact ⟨_, op_inD (by have := hr.un; omega), fun own H v1 v2 p1 p2 Q q => ⟨d, ds, (dp_of hid_sub).1 (h1 _ _ p1), (dp_of hid_sub).1 (h2 _ _ p2), s1, s2, by rw [hb]; exact q⟩⟩
theorem cmp_ninL (g : Good u N sc k X) {d : PyData} {ds : List PyData} {r : Bool} (h1 : DatP u.K P1 d) (h2 : DatP u.K P2 (.list ds)) (s1 : SeqAt.shaped d = true) (s2 : SeqAt.shaped (.list ds) = true) (hb : (ds.any fun z => PyData.eqv z d) = r) : CmpR X .NotIn P1 P2 (!r) := by
  obtain ⟨rfl, -, -, -, hr, -, -⟩ := g
  exact ⟨_, op_notInD (by have := hr.un; omega), fun own H v1 v2 p1 p2 Q q => ⟨d, ds, (dp_of hid_sub).1 (h1 _ _ p1), (dp_of hid_sub).1 (h2 _ _ p2), s1, s2, by rw [hb]; exact q⟩⟩
def rInTup (K : PySem.W.Frag) : R2 := fun x y H Q => ∃ d ds, Dp K H x d ∧ Dp K H y (.tuple ds) ∧ SeqAt.shaped d = true ∧ SeqAt.shaped (.tuple ds) = true ∧ Q (.bl (ds.any fun z => PyData.eqv z d)) H
theorem op_inTup (hu : X.A.units + 65 < cLine) : OpR X (compareOp .In) (rInTup X.K) := by
  intro pins s σ H x y v w Q I rx ry ⟨d, ds, hd, he, sd, se, q⟩
  have ⟨as, r1⟩ := Dp.reads I d x v hd rx
  have ⟨bs, r2⟩ := Dp.reads I (.tuple ds) y w he ry
  have l1 := SeqAt.canLay_of_shaped sd
  have l2 : PyData.canLayAll0 ds = true := SeqAt.canLay_of_shaped se
  exact SeqAt.in_tuple_reads r2 r1 l2 l1 (PyProof.Rows.room_in_shaped sd hu) ⟨.bl _, H, I, rfl, q⟩
theorem cmp_inT (g : Good u N sc k X) {d : PyData} {ds : List PyData} {r : Bool} (h1 : DatP u.K P1 d) (h2 : DatP u.K P2 (.tuple ds)) (s1 : SeqAt.shaped d = true) (s2 : SeqAt.shaped (.tuple ds) = true) (hb : (ds.any fun z => PyData.eqv z d) = r) : CmpR X .In P1 P2 r := by
  obtain ⟨rfl, -, -, -, hr, -, -⟩ := g
  exact ⟨_, op_inTup (by have := hr.un; omega), fun own H v1 v2 p1 p2 Q q => ⟨d, ds, (dp_of hid_sub).1 (h1 _ _ p1), (dp_of hid_sub).1 (h2 _ _ p2), s1, s2, by rw [hb]; exact q⟩⟩
theorem any_strs (ss : List Str) (s : Str) : ((ss.map PyData.str).any fun z => PyData.eqv z (.str s)) = decide (s ∈ ss) := by
  induction ss with
  | nil => simp
  | cons a l ih =>
    rw [List.map_cons, List.any_cons, ih]
    have e : PyData.eqv (.str a) (.str s) = decide (s = a) := by
      rw [PyData.eqv]
      by_cases q : a = s
      · subst q; simp
      · rw [decide_eq_false (fun z => q z.symm)]; simpa using q
    rw [e]
    by_cases q : s = a <;> by_cases q2 : s ∈ l <;> simp [q, q2]
/-- a text in a list of texts -/
theorem cmp_inSL (g : Good u N sc k X) {s : Str} {ss : List Str} (h2 : DatP u.K P2 (.list (ss.map PyData.str))) (h : PyData.strOk s = true) (hs : ∀ t ∈ ss, PyData.strOk t = true) : CmpR X .In (isS s) P2 (decide (s ∈ ss)) :=
  cmp_inL g dat_S h2 ((shp_str h).ok (by decide)) ((shp_strs hs).ok (by decide)) (any_strs ss s)
theorem cmp_ninSL (g : Good u N sc k X) {s : Str} {ss : List Str} (h2 : DatP u.K P2 (.list (ss.map PyData.str))) (h : PyData.strOk s = true) (hs : ∀ t ∈ ss, PyData.strOk t = true) : CmpR X .NotIn (isS s) P2 (!decide (s ∈ ss)) :=
  cmp_ninL g dat_S h2 ((shp_str h).ok (by decide)) ((shp_strs hs).ok (by decide)) (any_strs ss s)
theorem dat_strsL {K : PySem.W.Frag} {ss : List Str} (h : LstP K P (ss.map isS)) : DatP K P (.list (ss.map PyData.str)) := dat_L h (DatPs.map (f := isS) (g := PyData.str) (fun _ => dat_S) ss)
/-- a sign in a text -/
theorem cmp_inC {ch : Nat} {s : Str} : CmpR X .In (isS ⟨#[ch]⟩) (isS s) (decide (ch ∈ s.cps.toList)) := ⟨_, op_in_sign, fun own H v1 v2 p1 p2 Q q => ⟨ch, s, p1, p2, q⟩⟩
theorem cmp_ninC {ch : Nat} {s : Str} : CmpR X .NotIn (isS ⟨#[ch]⟩) (isS s) (!decide (ch ∈ s.cps.toList)) := ⟨_, op_notIn_sign, fun own H v1 v2 p1 p2 Q q => ⟨ch, s, p1, p2, q⟩⟩
/-! ### the signs of a text -/
def isCh (ch : Nat) : Pr := isS ⟨#[ch]⟩
theorem ji_str {s : Str} (he : J X Z Γ e (isS s)) : JI X Z Γ tg e (s.cps.toList.map isCh) := by
  refine ⟨_, pi_str peW, fun own σ H g R r => he own σ H g _ fun v H1 s1 p1 => ⟨s, p1, r _ H1 s1 ⟨fun i P hi own' H' s' dm => ?_, fun own' H' s' => ?_⟩⟩⟩
  · rw [List.getElem?_map] at hi
    cases hc : s.cps.toList[i]? with
    | none => rw [hc] at hi; cases hi
    | some ch =>
      rw [hc] at hi
      cases hi
      have hlt : i < s.cps.toList.length := get_lt hc
      have hc' : s.cps[i]? = some ch := by rw [← Array.getElem?_toList]; exact hc
      refine ⟨show i < s.cps.size by simpa using hlt, fun v' H'' y => ?_⟩
      obtain ⟨rfl, ch', h1, rfl⟩ := y
      rw [hc'] at h1
      cases h1
      exact ⟨.refl _, rfl⟩
  · show s.cps.size ≤ _
    rw [List.length_map, Array.length_toList]
    exact Nat.le_refl _
end
end Wd

end

section
set_option maxRecDepth 100000
set_option maxHeartbeats 4000000
/-! set(xs), xs a list of texts of which none stands twice -/
namespace Wd
open PySem PySem.Spec PyProof.Rows
abbrev TxtSet (prog : Program) (w : World) (h : Heap) (a : Addr) (xs : List Str) : Prop := h.SetOf (PySem.strKind prog w) a (fun t => decide (t ∈ xs)) xs.length
theorem TxtSet.moved {prog : Program} {w : World} {h h' : Heap} {a : Addr} {xs : List Str} (R : TxtSet prog w h a xs) (k : ∀ o, h.get? a = some o → h'.get? a = some o) : TxtSet prog w h' a xs :=
  let ⟨o, es, ep, tb, ho, more⟩ := R
  ⟨o, es, ep, tb, k o ho, more⟩
theorem take_one {xs : List Str} {i : Nat} (hi : i < xs.length) : xs.take (i + 1) = xs.take i ++ [xs.getD i Str.empty] := by
  rw [List.take_succ, List.getElem?_eq_getElem hi, List.getD_eq_getElem?_getD, List.getElem?_eq_getElem hi]; rfl
theorem not_yet {xs : List Str} (nd : xs.Nodup) {i : Nat} (hi : i < xs.length) : xs.getD i Str.empty ∉ xs.take i := by
  intro z
  have e : xs.getD i Str.empty = xs[i] := by rw [List.getD_eq_getElem?_getD, List.getElem?_eq_getElem hi]; rfl
  rw [e] at z
  obtain ⟨j, hj, ej⟩ := List.getElem_of_mem z
  rw [List.length_take] at hj
  rw [List.getElem_take] at ej
  have := (List.getElem_inj nd).mp ej
  omega
section
variable {prog : Program} {w : World} {A : Around}
/-- the loop of set.update, from the i-th text on -/
theorem txt_loop {R : Result → Shared → Prop} {it : Addr} {fp wr : List Addr} {G : Array GenState → Array GenState → Prop} {Pv : Nat → Value → Prop} {St : Nat → Shared → Prop} {xs : List Str}
    (Wk : WalksS prog w A.in1 it fp wr G xs.length Pv St) (a : Addr) (ha : a ∉ fp) (nd : xs.Nodup) (few : xs.length + 1 < scanBound) (vals : ∀ i v, Pv i v → ∃ t, v = .str (xs.getD i Str.empty) t) :
    ∀ (left i : Nat) (s : Shared), xs.length - i = left → i ≤ xs.length → St i s → TxtSet prog w s.heap a (xs.take i) →
      (∀ s', Moved (a :: wr) G s s' → TxtSet prog w s'.heap a xs → R (.ok (.ret .none)) s') →
      codeAny (model prog w) A (.builtin "set.update.loop" ⟨[.ref a, .ref it], []⟩) R s := by
  have out : a ∉ wr := fun z => ha (Wk.sub _ z)
  have wide : ∀ b ∈ wr, b ∈ a :: wr := fun _ z => .tail _ z
  intro left
  induction left with
  | zero =>
    intro i s e1 e2 hst hset fin
    have e3 : i = xs.length := by omega
    subst e3
    rw [List.take_length] at hset
    refine codeAny_builtin PyProof.Rows.F.entry_set_update_loop ?_
    rw [Around.under_plainId PyProof.Rows.F.plain_set_update_loop _]
    refine wpAny_bind (m := pyNext (.ref it)) (Wk.done s _ _ hst fun s1 mv => ?_)
    exact wpAny_pure (fin s1 (mv.mono wide) (hset.moved fun o q => mv.heap a o out q))
  | succ left ih =>
    intro i s e1 e2 hst hset fin
    have lt : i < xs.length := by omega
    refine codeAny_builtin PyProof.Rows.F.entry_set_update_loop ?_
    rw [Around.under_plainId PyProof.Rows.F.plain_set_update_loop _]
    refine wpAny_bind (m := pyNext (.ref it)) (Wk.item i s _ _ lt hst fun v s1 pv hst1 mv => ?_)
    obtain ⟨t, rfl⟩ := vals i v pv
    have hset1 := hset.moved (h' := s1.heap) fun o q => mv.heap a o out q
    refine wpAny_bind (m := holding [Value.str (xs.getD i Str.empty) t] (setAdd a (.str (xs.getD i Str.empty) t))) (wpAny_holding ?_)
    unfold setAdd
    refine wpAny_holding (wpAny_bind ((PySem.strKind prog w).pyHash (strKind_is prog w (xs.getD i Str.empty) t) ?_))
    have small : (xs.take i).length + 1 < scanBound := by rw [List.length_take]; omega
    refine wpAny_setAddHashed_of (s := { s1 with toks := s1.toks + 1 }) (strKind_is prog w (xs.getD i Str.empty) t) rfl hset1 small fun h2 sb hset2 => ?_
    have hset3 : TxtSet prog w h2 a (xs.take (i + 1)) := by
      refine SetOf_congr hset2 (fun k => ?_) ?_
      · rw [take_one lt]
        by_cases z1 : k ∈ xs.take i <;> by_cases z2 : k = xs.getD i Str.empty <;> simp [z1, z2]
      · rw [decide_eq_false (not_yet nd lt), take_one lt, List.length_append]
        rfl
    have same : ∀ b o, b ≠ a → s1.heap.get? b = some o → h2.get? b = some o := fun b o nb q => (sb.2 b nb).trans q
    have hst2 : St (i + 1) { s1 with heap := h2, toks := s1.toks + 1 } :=
      Wk.frame _ s1 _ _ hst1 (Nat.le_succ _) fun b hb o q => same b o (fun z => ha (z ▸ hb)) q
    refine wpAny_pure ⟨plainId_quiet PyProof.Rows.F.plain_set_update_loop _, ih (i + 1) _ (by omega) lt hst2 hset3 fun s3 mv3 hset4 => fin s3 ?_ hset4⟩
    exact Moved.trans Wk.gtrans ((mv.mono wide).then_heap (Nat.le_succ _) fun b o nb q => same b o (fun z => nb (z ▸ .head _)) q) mv3
/-- a set just made, empty -/
abbrev bare (led : Bool) : Obj := { cls := .type "set", dict := none, data := .set #[] 0 (.fresh 0 0 led) }
/-- what its __init__ leaves behind -/
def Filled (prog : Program) (w : World) (s : Shared) (xs : List Str) (r : Value) (s2 : Shared) : Prop :=
  r = .none ∧ ∃ h' tk, s2 = { s with heap := h', toks := tk } ∧ TxtSet prog w h' s.heap.objs.size xs ∧ ∀ b o, b < s.heap.objs.size → s.heap.get? b = some o → h'.get? b = some o
set_option maxHeartbeats 8000000 in
theorem fill_txt {E : Value → Shared → Prop} {s : Shared} {l : Addr} {items : Array Value} {xs : List Str} (led : Bool) (hh : A.handled = none) (hl : s.heap.IsList l items) (hi : StrsAre items.toList xs) (nd : xs.Nodup) (few : xs.length + 1 < scanBound) :
    wpAny (model prog w) A.in1 (Builtin.«set.__init__» ⟨[.ref s.heap.objs.size, .ref l], []⟩)
      (fun fin s' => match fin with | .done f => wants (Filled prog w s xs) E (.ok f) s' | .again c' => c'.quiet = true ∧ codeAny (model prog w) A c' (wants (Filled prog w s xs) E) s')
      (fun e s' => wants (Filled prog w s xs) E (.error e) s') { s with heap := s.heap.push (bare led) } := by
  have own0 : (s.heap.push (bare led)).get? s.heap.objs.size = some (bare led) := Heap.get?_push_size _ rfl
  obtain ⟨⟨oc, od, dt, sl⟩, ho, hc, n, hd⟩ := hl
  dsimp only at hc hd
  subst hc hd
  have ho1 : (s.heap.push (bare led)).get? l = some { cls := .type "list", dict := od, data := .seq items n, slots := sl } := Heap.get?_push_of_some _ ho
  have isl : (s.heap.push (bare led)).IsList l items := ⟨_, ho1, rfl, n, rfl⟩
  have no1 := PySem.F.sub_list_set
  have no2 := PySem.F.sub_list_frozenset
  have no3 : (Value.type "list" == Value.type "dict") = false := by decide
  have big : (s.heap.push (bare led)).objs.size = s.heap.objs.size + 1 := Heap.size_push ..
  have lLow : l < s.heap.objs.size := Heap.lt_size ho
  unfold Builtin.«set.__init__» noKeywords Builtin.Frozenset.updateFrom
  generalize hP : pyIter = walk
  wp_walk
  subst hP
  refine wpAny_pyIter_list isl (wpAny_bind (wpAny_runValue ?_))
  have still : A.in1.in1.handled = none := hh
  have apart : l ≠ (s.heap.push (bare led)).objs.size := by rw [big]; exact Nat.ne_of_lt (Nat.lt_succ_of_lt lLow)
  have outside : s.heap.objs.size ∉ [(s.heap.push (bare led)).objs.size, l] := by
    rw [big]
    intro z
    rcases List.mem_cons.mp z with z | z
    · exact Nat.ne_of_lt (Nat.lt_succ_self _) z
    · exact Nat.ne_of_gt lLow (List.mem_singleton.mp z)
  have cnt : items.size = xs.length := by rw [← Array.length_toList, StrsAre.len_eq hi]
  have told : ∀ (i : Nat) (v : Value), items[i]? = some v → ∃ t, v = .str (xs.getD i Str.empty) t := fun i v q => SS.strs_at hi i v (by rw [Array.getElem?_toList]; exact q)
  have fresh0 : TxtSet prog w ((s.heap.push (bare led)).push { cls := .type "list_iterator", data := .fields #[.ref l, .int 0 0] }) s.heap.objs.size (xs.take 0) :=
    SetOf_congr ((setObjOf_fresh (knd := PySem.strKind prog w) led).setOf (Heap.get?_push_of_some _ own0) (by unfold scanBound; omega)) (fun k => by simp) rfl
  have wk := (Walks.list still _ l apart items).toS (prog := prog) (w := w)
  rw [cnt] at wk
  refine txt_loop wk s.heap.objs.size outside nd few told (xs.length - 0) 0 _ rfl (Nat.zero_le _) ?_ ?_ ?_
  · exact ⟨⟨_, Heap.get?_push_size _ rfl, rfl, rfl⟩, isl.push _⟩
  · exact fresh0
  · rintro ⟨hp, gn, dw, tk, oss⟩ mv full
    obtain rfl : gn = s.gens := mv.gens
    obtain rfl : dw = s.drawn := mv.drawn
    obtain rfl : oss = s.os := mv.os
    refine wpAny_pure ?_
    show wpAny _ _ (ret Value.none) _ _ _
    refine wpAny_pure ⟨rfl, hp, tk, rfl, full, fun b o lt q => mv.heap b o (fun z => ?_) (Heap.get?_push_of_some _ (Heap.get?_push_of_some _ q))⟩
    rcases List.mem_cons.mp z with z | z
    · exact Nat.ne_of_lt lt z
    · have z := List.mem_singleton.mp z
      rw [big] at z
      exact Nat.ne_of_lt (Nat.lt_succ_of_lt lt) z
set_option maxHeartbeats 8000000 in
/-- set(xs) -/
theorem call_set_txt {E : Value → Shared → Prop} {s : Shared} {l : Addr} {items : Array Value} {xs : List Str} {Q : Value → Shared → Prop} (hh : A.handled = none) (hl : s.heap.IsList l items) (hi : StrsAre items.toList xs) (nd : xs.Nodup) (few : xs.length + 1 < scanBound)
    (goal : ∀ h' tk, TxtSet prog w h' s.heap.objs.size xs → (∀ b o, b < s.heap.objs.size → s.heap.get? b = some o → h'.get? b = some o) → Q (.ref s.heap.objs.size) { s with heap := h', toks := tk }) :
    wpAny (model prog w) A (call (.type "set") [.ref l]) Q E s := by
  obtain ⟨_, _, order⟩ := PySem.F.called_set.mro
  have f1 := PySem.F.called_set.made
  have f2 := PySem.F.called_set.sub
  have f3 := PySem.F.called_set.notType
  have f4 := PySem.F.called_set.canCreate
  have f5 := PySem.F.typeCall_set_1 (.ref l)
  refine wpAny_call (codeAny_of_tree (wpAny_pure (a := _) ⟨Code.quiet_builtin _ (by decide +kernel), codeAny_builtin PySem.F.entry_type_call ?_⟩))
  rw [Around.under_plain (weight_type_call_type "set" [.ref l] []) rfl]
  repeat (any_goals (first | assumption | wp_step))
  refine codeAny_mono (code_set_new_1 (.ref l) (E := E) (Q₁ := fun ob st => ∃ led : Bool, ob = .ref s.heap.objs.size ∧ st = { s with heap := s.heap.push (bare led) }) fun led => ⟨led, rfl, rfl⟩) ?_
  rintro (err | fl) st got
  · exact got
  cases fl with
  | next => exact got.elim
  | brk => exact got.elim
  | cont => exact got.elim
  | ret ob =>
    obtain ⟨led, rfl, rfl⟩ := got
    have isS : Shared.TypeIs { s with heap := s.heap.push (bare led) } (.ref s.heap.objs.size) "set" := ⟨_, Heap.get?_push_size _ rfl, rfl⟩
    have g1 := PySem.F.called_set.init.lookup
    have g2 := PySem.F.called_set.init.bind (.ref s.heap.objs.size)
    repeat (any_goals (first | assumption | wp_step))
    refine codeAny_mono (codeAny_call_builtin (R := wants (Filled prog w s xs) E) PySem.F.called_set.init.plain PySem.F.entry_set_init (check_set_init_1 isS ?_)) ?_
    · exact fill_txt (A := A.in1) led hh hl hi nd few
    · rintro (err | fl2) st2 got2
      · exact got2
      cases fl2 with
      | next => exact got2.elim
      | brk => exact got2.elim
      | cont => exact got2.elim
      | ret r =>
        obtain ⟨rfl, h', tk, rfl, full, kept⟩ := got2
        repeat (any_goals (first | assumption | wp_step))
        exact goal h' tk full kept
end
section
open L2
variable {u : Uni} {N Vn G : List Str} {sc : Scope} {k : Nat} {X : Cx} {Z : Zn} {Γ : List Ty} {a b c e : Expr} {P : Pr} {pos p p2 q : Pos}
def tLenTxt (K : PySem.W.Frag) (ta : TE) : TE := fun σ H Q => ta σ H fun x H1 => ∃ (l : Addr) (xs : List Str), x = V.ref l ∧ SqL K H1 l (xs.map V.str) ∧ xs.length < 1000 ∧ xs.Nodup ∧ Q (.int xs.length) H1
theorem pe_lenTxt {ta : TE} (hc : X.calm = true) (hg : Gl X "len") (hm : X.mg "len" = none) (hg2 : Gl X "set") (hm2 : X.mg "set" = none) (ha : PE X a ta)
    (na : starEach [a] X.env = (false, eval a X.env) :: starEach [] X.env) : PE X (.Call (.Name "len" p) [.Call (.Name "set" p2) [a] [] q] [] pos) (tLenTxt X.K ta) := by
  constructor
  intro pins s σ H Q I h
  refine Call_ (ld_blt I hg hm PySem.boot_len (PyProof.Rows.callWith_builtin1 (PyProof.Rows.args_cons ?_ rfl) rfl rfl))
  refine Call_ (ld_blt I hg2 hm2 PyProof.Rows.boot_set (PyProof.Rows.callWith_type1 (PyProof.Rows.args_cons (thn (ha.run pins s σ H _ I h) ?_) na) na rfl))
  rintro v s1 ⟨x, H1, I1, rx, l, xs, rfl, sq, few, nd, done⟩
  cases rx
  obtain ⟨its, vals, pl, -⟩ := I1.list sq
  refine PyProof.Rows.args_nil (call_set_txt (I1.ok.hd hc) pl.isList (xs := xs) (by simpa using strsAre_of vals) nd (by unfold scanBound; omega) fun h' tk full kept => PyProof.Rows.args_nil ?_)
  obtain ⟨o, es, ep, tb, ho, hx, hd, _, _, _, hf, hn⟩ := full
  have I2 : Inv X pins σ H1 { s1 with heap := h', toks := tk } := I1.kept fun b o q => kept b o (Heap.lt_size q) q
  exact call_len_set ho hx hd hf (by rw [hn] <;> omega) ⟨.int xs.length, H1, I2.tok _, ⟨_, by rw [hn]⟩, done⟩
/-- len(set(xs)) -/
theorem jb_lenSet (g : Good u N sc k X) (bt : Bts u) (nm : Nm sc Vn G) {i j : Nat} {xs : List Str} (hG : At G i "len") (hG2 : At G j "set") (ha : J X Z Γ a P) (hP : LstP u.K P (xs.map isS)) (few : xs.length < 1000) (nd : xs.Nodup)
    (na : starEach [a] X.env = (false, eval a X.env) :: starEach [] X.env) : J X Z Γ (.Call (.Name "len" p) [.Call (.Name "set" p2) [a] [] q] [] pos) (isI (xs.length : Int)) := by
  have l1 := okGl_gl (nm.gl hG)
  have l2 := okGl_gl (nm.gl hG2)
  have m1 := bt.len.ex
  have m2 := bt.set.ex
  obtain ⟨rfl, rfl, rfl, hc, -, -, -⟩ := g
  refine j_of (pe_lenTxt hc l1.1 m1 l2.1 m2 peW na) fun own σ H g Q q => ha own σ H g _ fun v H1 s1 p1 => ?_
  obtain ⟨ad, vs, rfl, h1, h2⟩ := hP _ _ p1
  rw [all_strs h2] at h1
  exact ⟨ad, xs, rfl, L2.Same.seq hid_sub h1, few, nd, q _ H1 s1 rfl⟩
end
end Wd

end

section
set_option maxRecDepth 100000
set_option maxHeartbeats 4000000
namespace Wd
open PySem PySem.Spec L2
section
variable {u : Uni} {N Vn G : List Str} {sc : Scope} {k : Nat} {X : Cx} {Z : Zn} {Γ : List Ty} {a b c e elt tg iter : Expr} {es : List Expr} {P P1 P2 P3 : Pr} {Ps Qs : List Pr} {pos p p2 apos q : Pos} {x : Str} {D : Ends} {rest A B sts : List Stmt}
/-- list(range(n)) -/
theorem all_rg {S : Hp} (n : Nat) : All S ((List.range n).map fun (i : Nat) => isI (i : Int)) (rgV 0 n) := by
  unfold rgV
  rw [show ((n : Int) - 0).toNat = n by omega]
  induction List.range n with
  | nil => exact .nil
  | cons i l ih => exact .cons (show V.int (0 + (i : Nat)) = .int i by rw [Int.zero_add]) ih
theorem jn_listRg (g : Good u N sc k X) (bt : Bts u) (nm : Nm sc Vn G) {i j n : Nat} (hG : At G i "list") (hG2 : At G j "range") (ha : J X Z Γ a (isI (n : Int))) (hn : n ≤ 1000000) (na : starEach [a] X.env = (false, eval a X.env) :: starEach [] X.env)
    (nb : starEach [.Call (.Name "range" p2) [a] [] q] X.env = (false, eval (.Call (.Name "range" p2) [a] [] q) X.env) :: starEach [] X.env) :
    JN X Z Γ (.Call (.Name "list" p) [.Call (.Name "range" p2) [a] [] q] [] pos) (ownL ((List.range n).map fun (i : Nat) => isI (i : Int))) := by
  have l1 := okGl_gl (nm.gl hG)
  have l2 := okGl_gl (nm.gl hG2)
  have m1 := bt.list.ex
  have m2 := bt.range.ex
  obtain ⟨rfl, rfl, rfl, hc, -, -, -⟩ := g
  refine jn_of (pe_listRg hc l1.1 m1 (prg_1 l2.1 m2 peW na) nb) fun own σ H g Q qq => ha own σ H g _ fun v H1 s1 p1 => ?_
  refine ⟨n, p1, RgOk.of_le (by omega) (by omega) (by omega) (by omega), fun pp hp => ?_⟩
  exact qq pp _ _ (s1.trans (same_new hp)) (L2.Same.free s1 hp) upd_same ⟨_, rfl, all_rg n⟩
/-- zip(xs, ys) -/
def zipP : List Pr → List Pr → List Pr
  | P :: Ps, Q :: Qs => isTt [P, Q] :: zipP Ps Qs
  | _, _ => []
theorem zipP_len : ∀ {Ps Qs : List Pr}, Ps.length = Qs.length → (zipP Ps Qs).length = Ps.length
  | [], [], _ => rfl
  | P :: Ps, Q :: Qs, h => by
    rw [zipP, List.length_cons, List.length_cons, zipP_len (by simpa using h)]
theorem zipP_get : ∀ {Ps Qs : List Pr} {i : Nat} {R : Pr}, (zipP Ps Qs)[i]? = some R → ∃ P Q, Ps[i]? = some P ∧ Qs[i]? = some Q ∧ R = isTt [P, Q]
  | [], _, i, R, h => by simp [zipP] at h
  | _ :: _, [], i, R, h => by simp [zipP] at h
  | P :: Ps, Q :: Qs, 0, R, h => by
    rw [zipP] at h
    cases h
    exact ⟨P, Q, rfl, rfl, rfl⟩
  | P :: Ps, Q :: Qs, i + 1, R, h => by
    rw [zipP] at h
    exact zipP_get (Ps := Ps) (Qs := Qs) (i := i) (by simpa using h)
theorem ji_zip (g : Good u N sc k X) (bt : Bts u) (nm : Nm sc Vn G) {i : Nat} {elts : List Expr} {kk : Nat} {tpos : Pos} (hG : At G i "zip") (ha : J X Z Γ a P1) (hb : J X Z Γ b P2) (h1 : LstP u.K P1 Ps) (h2 : LstP u.K P2 Qs) (hl : Ps.length = Qs.length)
    (hs : starEach [a, b] X.env = (false, eval a X.env) :: starEach [b] X.env) (hs2 : starEach [b] X.env = (false, eval b X.env) :: starEach [] X.env) (hpl : (backTo pos (starEach [b] X.env)).any (·.1) = false) :
    JI X Z Γ (.Tuple elts kk tpos) (.Call (.Name "zip" p) [a, b] [] pos) (zipP Ps Qs) := by
  have l1 := okGl_gl (nm.gl hG)
  have m1 := bt.zip.ex
  obtain ⟨rfl, rfl, rfl, hc, -, -, -⟩ := g
  refine ⟨_, pi_zip l1.1 m1 (pa_cons peW (pa_cons peW pa_nil hs2) hs) hs hpl, fun own σ H g R r => ha own σ H g _ fun v H1 s1 p1 => hb own σ H1 (g.grow s1) _ fun w H2 s2 p2 => ?_⟩
  obtain ⟨aa, xs, rfl, q1, q2⟩ := h1 _ _ (P1.mono (hid_grow s2) p1)
  obtain ⟨bb, ys, rfl, q3, q4⟩ := h2 _ _ p2
  refine ⟨aa, bb, xs, ys, rfl, L2.Same.seq hid_sub q1, L2.Same.seq hid_sub q3, r _ H2 (s1.trans s2) ⟨fun i R hi own' H' s' dm => ?_, fun own' H' s' => ?_⟩⟩
  · obtain ⟨P, Q, e1, e2, rfl⟩ := zipP_get hi
    obtain ⟨vx, ex, hx⟩ := q2.get e1
    obtain ⟨vy, ey, hy⟩ := q4.get e2
    have t1 : SqL X.K H' aa xs := L2.Same.seq hid_sub (L2.Same.seq s' q1)
    have t2 : SqL X.K H' bb ys := L2.Same.seq hid_sub (L2.Same.seq s' q3)
    refine ⟨⟨xs, ys, vx, vy, t1, t2, ex, ey⟩, fun v' H'' y => ?_⟩
    obtain ⟨T, x', y', rfl, hT, rfl, f1, f2⟩ := y
    obtain rfl : vx = x' := Option.some.inj (ex.symm.trans (f1 xs t1))
    obtain rfl : vy = y' := Option.some.inj (ey.symm.trans (f2 ys t2))
    have sm : Same H' (upd H' T (.tup [vx, vy])) := same_new hT
    have nT : T ∉ own' := fun z => dm T z hT
    exact ⟨sm, T, _, rfl, (hid_out nT).trans upd_same, .cons (P.mono (s'.trans (hid_grow sm)) hx) (.cons (Q.mono (s'.trans (hid_grow sm)) hy) .nil)⟩
  · exact ⟨xs, ys, L2.Same.seq hid_sub (L2.Same.seq s' q1), L2.Same.seq hid_sub (L2.Same.seq s' q3), .inl (by rw [zipP_len hl, q2.length]; exact Nat.le_refl _)⟩
/-- an assignment of a value that is told by more than one datum -/
theorem tr_asgX {β : Type} {Bb : β → Prop} {Q : β → Pr} (he : J X Z Γ e (Pr.ex fun b => Pr.and (Bb b) (Q b))) (hs : swapsWithSole [a] e pos.line X.env = pure false) (hw : swappedStores [a] e X.env = pure none)
    (h1 : (assignEach [a] X.env).map (·.2) = [assign a X.env]) (h : ∀ b, Bb b → ∃ l, JG X Z Γ a (Q b) l ∧ Tr X Z (setAll Γ l) rest D) : Tr X Z Γ (.Assign [a] e pos :: rest) D :=
  tr_of (pss_cons (ps_asg peW pgW hs hw h1) pssW) fun own σ H g => he own σ H g _ fun v H1 s1 ⟨b, hb, p1⟩ => by
    obtain ⟨l, hg, ht⟩ := h b hb
    exact hg own σ H1 v (g.grow s1) p1 _ fun σ' g' _ => ht own σ' H1 g'
/-- isinstance(a, C), C a class of one's own, by its name -/
theorem jb_isiC (g : Good u N sc k X) (bt : Bts u) (nm : Nm sc Vn G) {t : Value} {C : Addr} {d : Bool} {y : Str} {j j2 : Nat} (hy : u.mg y = some (.ref C)) (hG : At G j "isinstance") (hG2 : At G j2 y) (ha : J X Z Γ a P) (ht : HasTy u.K P t) (hk : PySem.W.kitOne u.K t (.ref C) = some d) {py : Pos}
    (hs : starEach [a, .Name y py] X.env = (false, eval a X.env) :: starEach [.Name y py] X.env) : J X Z Γ (.Call (.Name "isinstance" p) [a, .Name y py] [] pos) (isB d) :=
  j_callB g bt.isi (by first | exact PySem.boot_isinstance | exact PyProof.Rows.boot_isinstance | exact PySem.P.boot_isinstance | exact PySem.W.boot_isinstance) (ja_cons ha (ja_cons (P := isV (.ref C)) (j_glo g ⟨_, .ref C, hy, rfl, fun _ => rfl⟩ (nm.gl hG2)) ja_nil rfl) hs) (cal_isiC (congrArg Uni.K g.eu) ht hk) (nm.gl hG) hs rfl
/-- isinstance(a, (C1, C2)) -/
theorem cal_isiT {K : PySem.W.Frag} (hK : K = X.K) {t : Value} {C1 C2 : Addr} {d : Bool} (h : HasTy K P t) (hb : PySem.W.kitAny K t [.ref C1, .ref C2] = some d) : CalR X (.builtin "isinstance") [P, isTt [isV (.ref C1), isV (.ref C2)]] (isB d) := ⟨_, call_isiT, fun own H vs _ q Q k => by
  subst hK
  obtain ⟨v, w, rfl, h1, h2⟩ := all2 q
  obtain ⟨tp, cs, rfl, h3, h4⟩ := h2
  obtain ⟨v1, v2, rfl, e1, e2⟩ := all2 h4
  cases e1
  cases e2
  exact ⟨v, tp, _, t, _, d, rfl, (hid_some h3).2, .cons (.own C1) (.cons (.own C2) .nil), tyx_grow hid_sub (h _ _ h1), hb, k _ H (.refl H) rfl⟩⟩
theorem jb_isiT (g : Good u N sc k X) (bt : Bts u) (nm : Nm sc Vn G) {t : Value} {C1 C2 : Addr} {d : Bool} {y1 y2 : Str} {j j1 j2 : Nat} (hy1 : u.mg y1 = some (.ref C1)) (hy2 : u.mg y2 = some (.ref C2)) (hG : At G j "isinstance") (hG1 : At G j1 y1) (hG2 : At G j2 y2) (ha : J X Z Γ a P) (ht : HasTy u.K P t) (hk : PySem.W.kitAny u.K t [.ref C1, .ref C2] = some d) {py1 py2 pt : Pos} {n : Nat}
    (hs : starEach [a, .Tuple [.Name y1 py1, .Name y2 py2] n pt] X.env = (false, eval a X.env) :: starEach [.Tuple [.Name y1 py1, .Name y2 py2] n pt] X.env) : J X Z Γ (.Call (.Name "isinstance" p) [a, .Tuple [.Name y1 py1, .Name y2 py2] n pt] [] pos) (isB d) :=
  j_callB g bt.isi (by first | exact PySem.boot_isinstance | exact PyProof.Rows.boot_isinstance | exact PySem.P.boot_isinstance | exact PySem.W.boot_isinstance) (ja_cons ha (ja_cons (j_tup g (ja_cons (P := isV (.ref C1)) (j_glo g ⟨_, .ref C1, hy1, rfl, fun _ => rfl⟩ (nm.gl hG1)) (ja_cons (P := isV (.ref C2)) (j_glo g ⟨_, .ref C2, hy2, rfl, fun _ => rfl⟩ (nm.gl hG2)) ja_nil rfl) rfl) (Nat.le_of_ble_eq_true rfl)) ja_nil rfl) hs) (cal_isiT (congrArg Uni.K g.eu) ht hk) (nm.gl hG) hs rfl
end
end Wd

end

section
set_option maxRecDepth 100000
set_option maxHeartbeats 4000000
namespace Wd
open PySem PySem.Spec L2
section
variable {u : Uni} {N Vn G : List Str} {sc : Scope} {k : Nat} {X : Cx} {Z : Zn} {Γ Γ' : List Ty} {a b c e elt tg iter : Expr} {es : List Expr} {P P1 P2 P3 ret : Pr} {Ps Qs : List Pr} {pos p p2 apos q : Pos} {x : Str} {D : Ends} {rest A B sts : List Stmt}
/-- f() -/
theorem j_call0 (g : Good u N sc k X) {j : Nat} {sp : Sp} (F : Callable u x j sp []) (hj : j ≤ k) (hsp : ∀ vs H Q, Pf [] ret vs H Q → sp vs H Q E0) (hg : okGl sc x = true) : J X Z Γ (.Call (.Name x p) [] [] pos) ret := by
  obtain ⟨rfl, -, rfl, -, hr, -, -⟩ := g
  obtain ⟨f, fd, ps, ds, h1, h2, h3, h4, h5⟩ := F.ex
  obtain ⟨g1, g2, _⟩ := okGl_gl hg
  refine j_of (pe_call0 h5 (hr.mono hj) g1 h1 h2 h3 h4 pass0 g2) fun own σ H g Q q => ?_
  exact hsp _ _ _ ⟨own, g.dom, .nil, fun v H' s p => q v H' s p⟩
/-- an if without else whose ends meet again -/
theorem tr_ifJ {d : Bool} (Γ' : List Ty) (ht : JT X Z Γ c d) (h1 : d = true → Tr X Z Γ A { D with nx := fun σ H => ∃ own, StO Z own Γ' σ H }) (h2 : ∀ own σ H, StO Z own Γ σ H → StO Z own Γ' σ H) (h : Tr X Z Γ' rest D) : Tr X Z Γ (.If c A [] pos :: rest) D := by
  refine tr_if ht (fun e => ⟨fun own σ H g => ?_⟩) (fun _ => tr_end ⟨fun own σ H g => h own σ H (h2 own σ H g)⟩)
  exact tWs_mono (h1 e own σ H g) (fun σ H ⟨own, g⟩ => h own σ H g) (fun _ _ z => z) (fun _ _ z => z) (fun _ _ z => z)
theorem tr_join (h : ∀ own σ H, StO Z own Γ σ H → StO Z own Γ' σ H) {D' : Ends} (hD : D'.nx = fun σ H => ∃ own, StO Z own Γ' σ H) : Tr X Z Γ [] D' := tr_nil fun own σ H g => by rw [hD]; exact ⟨own, h own σ H g⟩
/-- what a slot holds is taken apart, in an expression -/
theorem j_exS (i : Nat) {α : Type} {f : α → Pr} (hΓ : Γ[i]? = some (.val (Pr.ex f))) (h : ∀ a, J X Z (Γ.set i (.val (f a))) e P) : J X Z Γ e P := ⟨fun own σ H g => by
  obtain ⟨v, e, a, q⟩ := g.val hΓ
  have g' := g.set (i := i) (P := f a) (v := v) (get_lt hΓ) q
  rw [set_self e] at g'
  exact (h a) own σ H g'⟩
theorem j_andS (i : Nat) {φ : Prop} (hΓ : Γ[i]? = some (.val (Pr.and φ P1))) (h : φ → J X Z (Γ.set i (.val P1)) e P) : J X Z Γ e P := ⟨fun own σ H g => by
  obtain ⟨v, e, a, q⟩ := g.val hΓ
  have g' := g.set (i := i) (P := P1) (v := v) (get_lt hΓ) q
  rw [set_self e] at g'
  exact (h a) own σ H g'⟩
theorem jt_exS (i : Nat) {α : Type} {f : α → Pr} {d : Bool} (hΓ : Γ[i]? = some (.val (Pr.ex f))) (h : ∀ a, JT X Z (Γ.set i (.val (f a))) e d) : JT X Z Γ e d := ⟨fun own σ H g => by
  obtain ⟨v, e, a, q⟩ := g.val hΓ
  have g' := g.set (i := i) (P := f a) (v := v) (get_lt hΓ) q
  rw [set_self e] at g'
  exact (h a) own σ H g'⟩
theorem jt_andS (i : Nat) {φ : Prop} {d : Bool} (hΓ : Γ[i]? = some (.val (Pr.and φ P1))) (h : φ → JT X Z (Γ.set i (.val P1)) e d) : JT X Z Γ e d := ⟨fun own σ H g => by
  obtain ⟨v, e, a, q⟩ := g.val hΓ
  have g' := g.set (i := i) (P := P1) (v := v) (get_lt hΓ) q
  rw [set_self e] at g'
  exact (h a) own σ H g'⟩
end
end Wd

end

section
set_option maxRecDepth 100000
set_option maxHeartbeats 4000000
namespace Wd
open PySem PySem.Spec L2
/-- a table of texts by texts -/
def tabV (ps : List (Str × Str)) : List (Key × V) := ps.map fun e => (Sum.inr e.1, V.str e.2)
/-- .. that stands still (locked) -/
def isDF (ps : List (Str × Str)) : Pr := ⟨fun S v => ∃ a o, v = .ref a ∧ S a = some (.frz o (.dK (tabV ps))), fun s ⟨a, o, e, h⟩ => ⟨a, o, e, s _ _ h⟩⟩
theorem tab_val (ps : List (Str × Str)) (k : Str) : valV (tabV ps) (Sum.inr k) = (ps.lookup k).map V.str := by
  induction ps with
  | nil => rfl
  | cons e ps ih =>
    have hc : tabV (e :: ps) = (Sum.inr e.1, V.str e.2) :: tabV ps := rfl
    rw [hc, List.lookup_cons]
    by_cases h : e.1 = k
    · rw [valV_pos (p := (Sum.inr e.1, V.str e.2)) (by rw [h]), show (k == e.1) = true by simp [h]]; rfl
    · rw [valV_neg (p := (Sum.inr e.1, V.str e.2)) (fun z => h (Sum.inr.inj z)), show (k == e.1) = false by simpa using fun z => h z.symm]; exact ih
section
variable {u : Uni} {N Vn G : List Str} {sc : Scope} {k : Nat} {X : Cx} {Z : Zn} {Γ : List Ty} {a b c e : Expr} {pos p apos : Pos}
/-- d.get(k, x) -/
theorem j_dget2 (g : Good u N sc k X) {ps : List (Str × Str)} {s t : Str} (ha : J X Z Γ a (isDF ps)) (hb : J X Z Γ b (isS s)) (hc : J X Z Γ c (isS t)) (m : M2 X a "get" apos b c pos) : J X Z Γ (.Call (.Attribute a "get" apos) [b, c] [] pos) (isS ((ps.lookup s).getD t)) := by
  obtain ⟨rfl, -, -, -, hr, -, -⟩ := g
  refine j_of (pe_dget2 (by have := hr.un; omega) peW peW peW m) fun own σ H g Q q => ha own σ H g _ fun v H1 s1 ⟨ad, od, e, h1⟩ => ?_
  refine ⟨ad, e, .inl ⟨_, .inr ⟨od, (hid_some h1).2⟩⟩, hb own σ H1 (g.grow s1) _ fun w H2 s2 p2 => hc own σ H2 (g.grow (s1.trans s2)) _ fun z H3 s3 p3 => ?_⟩
  refine ⟨valV (tabV ps) (Sum.inr s), .inl ⟨tabV ps, Sum.inr s, .inr ⟨od, s3 _ _ (s2 _ _ (hid_some h1).2)⟩, p2, rfl⟩, q _ H3 ((s1.trans s2).trans s3) ?_⟩
  rw [tab_val, show z = _ from p3]
  cases ps.lookup s <;> rfl
/-- for k, x in d.items() -/
theorem ji_items (g : Good u N sc k X) {ps : List (Str × Str)} {elts : List Expr} {kk : Nat} {tpos : Pos} (ha : J X Z Γ a (isDF ps)) (hbase : attributeBase a "items" X.env (eval a X.env) = eval a X.env) (hline : (apos.endLine == pos.line) = true) :
    JI X Z Γ (.Tuple elts kk tpos) (.Call (.Attribute a "items" apos) [] [] pos) (ps.map fun e => isTt [isS e.1, isS e.2]) := by
  refine ⟨_, pi_items peW hbase hline, fun own σ H g R r => ha own σ H g _ fun v H1 s1 ⟨ad, od, e, h1⟩ => ?_⟩
  refine ⟨ad, od, tabV ps, e, (hid_some h1).2, r _ H1 s1 ⟨fun i P hi own' H' s' dm => ?_, fun own' H' s' => ?_⟩⟩
  · have hd := (hid_some (s' _ _ h1)).2
    rw [List.getElem?_map] at hi
    cases he : ps[i]? with
    | none => rw [he] at hi; cases hi
    | some en =>
      rw [he] at hi
      cases hi
      refine ⟨⟨hd, by unfold tabV; rw [List.length_map]; exact get_lt he⟩, fun v' H'' y => ?_⟩
      obtain ⟨T, kk, w, hkv, rfl, hT, rfl⟩ := y
      unfold tabV at hkv
      rw [List.getElem?_map, he] at hkv
      cases hkv
      have sm : Same H' (upd H' T (.tup [kV (Sum.inr en.1), V.str en.2])) := same_new hT
      have nT : T ∉ own' := fun z => dm T z hT
      exact ⟨sm, T, _, rfl, (hid_out nT).trans upd_same, .cons rfl (.cons rfl .nil)⟩
  · exact ⟨(hid_some (s' _ _ h1)).2, by unfold tabV; rw [List.length_map, List.length_map]; exact Nat.le_refl _⟩
/-- an owned one -/
def ownDK (ps : List (Str × Str)) : Ct := ⟨fun _ o => o = .dK (tabV ps), fun _ h => h, fun e vs z => by subst e; cases z⟩
def ownFr (ps : List (Str × Str)) : Ct := ⟨fun _ o => ∃ od, o = .frz od (.dK (tabV ps)), fun _ h => h, fun ⟨_, e⟩ vs z => by subst e; cases z⟩
theorem own_Fr {ps : List (Str × Str)} : ∀ (S : Hp) p o, S p = some o → (ownFr ps).c S o → (isDF ps).p S (.ref p) := fun S p o h ⟨od, e⟩ => by subst e; exact ⟨p, od, rfl, h⟩
/-- an owned table is read while it is locked -/
theorem lookK (i : Nat) {ps : List (Str × Str)} {d : Bool} (hi : Γ[i]? = some (.own true (ownDK ps))) (h : JT X Z (Γ.set i (.val (isDF ps))) e d) : JT X Z Γ e d := ⟨fun own σ H g Q q => fun pins s I => by
  obtain ⟨p, o, e1, m1, e2, rfl⟩ := g.slot hi
  obtain ⟨od, I1⟩ := I.lock e2 trivial
  have g1 := g.write (C' := ownFr ps) (o := .frz od (.dK (tabV ps))) hi e1 ⟨od, rfl⟩
  have hi2 : (Γ.set i (.own true (ownFr ps)))[i]? = some (.own true (ownFr ps)) := by rw [List.getElem?_set, if_pos rfl, if_pos (get_lt hi)]
  obtain ⟨own', g2, _⟩ := g1.frozen hi2 own_Fr
  rw [List.set_set] at g2
  have hq : ∀ H', Same (upd H p (.frz od (.dK (tabV ps)))) H' → (fun (r : Bool) (H' : Hp) => r = d ∧ Same (upd H p (.frz od (.dK (tabV ps)))) H') d H' := fun H' s' => ⟨rfl, s'⟩
  refine thn (h.run own' σ _ g2 (fun (r : Bool) (H' : Hp) => r = d ∧ Same (upd H p (.frz od (.dK (tabV ps)))) H') hq pins s I1) fun r s1 ⟨H', I2, er, sm⟩ => ?_
  subst er
  have hp : H' p = some (.frz od (.dK (tabV ps))) := sm _ _ upd_same
  refine ⟨upd H' p (.dK (tabV ps)), I2.unlock hp (I.nofrz e2 trivial), q _ fun a w ha => ?_⟩
  by_cases z : a = p
  · subst z; rw [upd_same, ← e2]; exact ha
  · rw [upd_ne z]
    exact sm a w (by rw [upd_ne z]; exact ha)⟩
end
end Wd

end

section
set_option maxRecDepth 100000
set_option maxHeartbeats 4000000
namespace Wd
open PySem PySem.Spec L2
section
variable {u : Uni} {N Vn G : List Str} {sc : Scope} {k : Nat} {X : Cx} {Z : Zn} {Γ : List Ty} {a b c e : Expr} {es : List Expr} {P P1 P2 ret : Pr} {Ps Qs : List Pr} {pos p apos : Pos} {x f m : Str} {D : Ends} {rest A B sts : List Stmt} {σ : L2.St} {H : Hp} {own : List Addr} {sp : Sp}
/-! ### texts -/
theorem j_join (g : Good u N sc k X) {s : Str} {ss : List Str} (ha : J X Z Γ a (isS s)) (hb : J X Z Γ b P) (hP : LstP u.K P (ss.map isS)) (hl : (ss.map (·.length)).sum + ss.length * s.length ≤ 16777216) (hs : starEach [b] X.env = [(false, eval b X.env)]) (hbase : attributeBase a "join" X.env (eval a X.env) = eval a X.env) (hline : (apos.endLine == pos.line) = true) :
    J X Z Γ (.Call (.Attribute a "join" apos) [b] [] pos) (isS (Txt.join s ss)) := by
  obtain ⟨rfl, -, -, -, -, -, -⟩ := g
  refine j_of (pe_join peW peW hs hbase hline) fun own σ H g Q q => ha own σ H g _ fun v H1 s1 p1 => ⟨⟨s, p1⟩, hb own σ H1 (g.grow s1) _ fun w H2 s2 p2 => ?_⟩
  obtain ⟨l, vs, rfl, h1, h2⟩ := hP _ _ p2
  rw [all_strs h2] at h1
  exact ⟨s, l, ss, p1, rfl, .inl (L2.Same.seq hid_sub h1), hl, q _ H2 (s1.trans s2) rfl⟩
theorem all_strs_of {S : Hp} : ∀ ss : List Str, All S (ss.map isS) (ss.map V.str)
  | [] => .nil
  | s :: ss => .cons rfl (all_strs_of ss)
theorem jn_split {s t : Str} (ha : J X Z Γ a (isS s)) (hb : J X Z Γ b (isS t)) (ht : (t.length == 0) = false) (hl : s.length + 2 ≤ sizeLine) (hs : starEach [b] X.env = [(false, eval b X.env)]) (hbase : attributeBase a "split" X.env (eval a X.env) = eval a X.env) (hline : (apos.endLine == pos.line) = true) :
    JN X Z Γ (.Call (.Attribute a "split" apos) [b] [] pos) (ownL ((Txt.split s t).map isS)) := by
  refine jn_of (pe_split peW peW hs hbase hline) fun own σ H g Q q => ha own σ H g _ fun v H1 s1 p1 => ⟨⟨s, p1⟩, hb own σ H1 (g.grow s1) _ fun w H2 s2 p2 => ?_⟩
  rw [show v = _ from p1, show w = _ from p2]
  refine ⟨s, t, rfl, rfl, ht, hl, fun pp hp => ?_⟩
  exact q pp _ _ ((s1.trans s2).trans (same_new hp)) (L2.Same.free (s1.trans s2) hp) upd_same ⟨_, rfl, all_strs_of _⟩
theorem j_split {s t : Str} {ys : List Str} (ha : J X Z Γ a (isS s)) (hb : J X Z Γ b (isS t)) (ht : (t.length == 0) = false) (hl : s.length + 2 ≤ sizeLine) (hy : Txt.split s t = ys) (hs : starEach [b] X.env = [(false, eval b X.env)]) (hbase : attributeBase a "split" X.env (eval a X.env) = eval a X.env) (hline : (apos.endLine == pos.line) = true) :
    J X Z Γ (.Call (.Attribute a "split" apos) [b] [] pos) (isL (ys.map isS)) := by
  subst hy
  exact J.new (jn_split ha hb ht hl hs hbase hline) own_L
/-- a method of a text with one text -/
def StM (X : Cx) (name id : String) (g : Str → Str → V) (C : Str → Prop) : Prop := Slot "str" name id ∧ typeOf (.builtin id) = pure (.type "method_descriptor") ∧ ∃ r, MtR X id r ∧ ∀ (a b : Str) (H : Hp) (Q : VK), C a → Q (g a b) H → r (.str a) [.str b] H Q
theorem j_strM {name id : String} {gf : Str → Str → V} {C : Str → Prop} {s t : Str} (M : StM X name id gf C) (ha : J X Z Γ a (isS s)) (hb : J X Z Γ b (isS t)) (hC : C s) (hs : starEach [b] X.env = [(false, eval b X.env)]) (hbase : attributeBase a name X.env (eval a X.env) = eval a X.env) (hline : (apos.endLine == pos.line) = true) :
    J X Z Γ (.Call (.Attribute a name apos) [b] [] pos) (isV (gf s t)) := by
  obtain ⟨sl, ty, r, h1, h2⟩ := M
  refine j_of (pe_m1 sl ty h1 peW peW hs hbase hline) fun own σ H g Q q => ha own σ H g _ fun v H1 s1 p1 => ⟨⟨s, p1⟩, hb own σ H1 (g.grow s1) _ fun w H2 s2 p2 => ?_⟩
  rw [show v = _ from p1, show w = _ from p2]
  exact h2 s t H2 _ hC (q _ H2 (s1.trans s2) rfl)
theorem sm_strip : StM X "strip" "str.strip" (fun a b => .str (Txt.stripChars a b)) (fun a => a.length ≤ sizeLine) := ⟨F.slot_str_strip, F.type_str_strip, _, mt_stripChars, fun a b H Q h q => ⟨a, b, rfl, rfl, h, q⟩⟩
theorem sm_starts : StM X "startswith" "str.startswith" (fun a b => .bl (Txt.startswith a b)) (fun _ => True) := ⟨F.slot_str_startswith, F.type_str_startswith, _, mt_startswith, fun a b H Q _ q => ⟨a, b, rfl, rfl, q⟩⟩
theorem j_strip {s t : Str} (ha : J X Z Γ a (isS s)) (hb : J X Z Γ b (isS t)) (hC : s.length ≤ sizeLine) (hs : starEach [b] X.env = [(false, eval b X.env)]) (hbase : attributeBase a "strip" X.env (eval a X.env) = eval a X.env) (hline : (apos.endLine == pos.line) = true) :
    J X Z Γ (.Call (.Attribute a "strip" apos) [b] [] pos) (isS (Txt.stripChars s t)) := j_strM sm_strip ha hb hC hs hbase hline
theorem j_starts {s t : Str} {d : Bool} (ha : J X Z Γ a (isS s)) (hb : J X Z Γ b (isS t)) (hd : Txt.startswith s t = d) (hs : starEach [b] X.env = [(false, eval b X.env)]) (hbase : attributeBase a "startswith" X.env (eval a X.env) = eval a X.env) (hline : (apos.endLine == pos.line) = true) :
    J X Z Γ (.Call (.Attribute a "startswith" apos) [b] [] pos) (isB d) := by
  subst hd
  exact j_strM sm_starts ha hb trivial hs hbase hline
/-- a text so many times -/
def repS (s : Str) (n : Nat) : Str := ⟨(List.replicate n s.cps.toList).flatten.toArray⟩
theorem fold_app : ∀ (l : List (Array Nat)) (acc : Array Nat), (l.foldl (· ++ ·) acc).toList = acc.toList ++ (l.map Array.toList).flatten
  | [], acc => by simp
  | x :: l, acc => by
    rw [List.foldl_cons, fold_app l, Array.toList_append, List.map_cons, List.flatten_cons, List.append_assoc]
theorem repS_eq (s : Str) (n : Nat) : (⟨(List.replicate n s.cps).foldl (· ++ ·) #[]⟩ : Str) = repS s n := by
  unfold repS
  congr 1
  apply Array.toList_inj.mp
  rw [fold_app]
  simp
theorem op_repS : OpR X (binaryOp .Mult) (fun x y H Q => ∃ s n, x = .str s ∧ y = .int (n : Nat) ∧ s.length ≤ 1000 ∧ n ≤ 1000 ∧ Q (.str (repS s n)) H) := by
  intro pins st σ H x y v w Q I rx ry ⟨s, n, ex, ey, h1, h2, q⟩
  subst ex ey
  obtain ⟨t, rfl⟩ := rx
  obtain ⟨t2, rfl⟩ := ry
  have e : Txt.mul s (n : Int) = repS s n := by
    unfold Txt.mul
    by_cases c1 : (n : Int) < 1
    · have : n = 0 := by omega
      subst this
      rw [if_pos c1]; rfl
    · rw [if_neg c1]
      split
      · next c2 =>
        rcases Bool.or_eq_true_iff.mp c2 with z | z
        · have : n = 1 := by have := eq_of_beq z; omega
          subst this
          unfold repS
          simp
        · have : s.cps.toList = [] := by
            have := eq_of_beq z
            exact List.eq_nil_of_length_eq_zero (by rw [Array.length_toList]; exact this)
          obtain ⟨cs⟩ := s
          obtain ⟨l⟩ := cs
          have this : l = [] := this
          subst this
          unfold repS
          simp
      · rw [Int.toNat_natCast]; exact repS_eq s n
  refine PySem.SB.mul ⟨?_, fun _ _ => ?_, fun _ _ => ?_⟩ fun t' tk => ⟨.str (repS s n), H, I.tok tk, ⟨t', by rw [e]⟩, q⟩
  · rw [decide_eq_false (by omega), decide_eq_false (by omega)]; rfl
  · have hn : (0 : Int) < n := by omega
    have : (1000 : Int) ≤ (2 ^ 63 - 1) / n := by
      rw [Int.le_ediv_iff_mul_le hn]
      omega
    omega
  · have : s.length * (n : Int).toNat ≤ 1000 * 1000 := Nat.mul_le_mul h1 (by omega)
    have lt : ¬ (s.length * (n : Int).toNat > 2 ^ 24) := by omega
    exact decide_eq_false lt
theorem j_repS {s : Str} {n : Nat} (ha : J X Z Γ a (isS s)) (hb : J X Z Γ b (isI (n : Int))) (h1 : s.length ≤ 1000) (h2 : n ≤ 1000) : J X Z Γ (.BinOp a .Mult b pos) (isS (repS s n)) :=
  j_of (pe_op op_repS peW peW) fun own σ H g Q q => ha own σ H g _ fun v H1 s1 p1 => hb own σ H1 (g.grow s1) _ fun w H2 s2 p2 => ⟨s, n, p1, p2, h1, h2, q _ H2 (s1.trans s2) rfl⟩
/-- tuple + tuple -/
theorem j_catT (ha : J X Z Γ a P1) (hb : J X Z Γ b P2) {K : PySem.W.Frag} (hK : K = X.K) (h1 : TupP K P1 Ps) (h2 : TupP K P2 Qs) (hne : Ps ≠ []) (hne2 : Qs ≠ []) (hl : Ps.length + Qs.length ≤ 1000) : J X Z Γ (.BinOp a .Add b pos) (isTt (Ps ++ Qs)) := by
  subst hK
  refine j_of (pe_op op_catT peW peW) fun own σ H g Q q => ha own σ H g _ fun v H1 s1 p1 => hb own σ H1 (g.grow s1) _ fun w H2 s2 p2 => ?_
  obtain ⟨l1, vs, rfl, a1, a2⟩ := h1 _ _ (P1.mono (hid_grow s2) p1)
  obtain ⟨l2, ws, rfl, b1, b2⟩ := h2 _ _ p2
  have e1 := a2.length
  have e2 := b2.length
  refine ⟨l1, l2, vs, ws, rfl, rfl, Same.tup hid_sub a1, Same.tup hid_sub b1, fun z => ?_, Nat.le_of_lt (small1000 (by omega)), fun z => ?_, fun _ pp hp => ?_⟩
  · subst z; exact hne (List.eq_nil_of_length_eq_zero (by simpa using e1))
  · subst z; exact absurd (List.eq_nil_of_length_eq_zero (by simpa using e2)) hne2
  · have sm : Same H2 (upd H2 pp (.tup (vs ++ ws))) := same_new hp
    have nT : pp ∉ own := fun z => ((g.grow (s1.trans s2)).dom pp z).1 hp
    exact q _ _ ((s1.trans s2).trans sm) ⟨pp, _, rfl, (hid_out nT).trans upd_same, (a2.mono (hid_grow sm)).append (b2.mono (hid_grow sm))⟩
/-- try that runs through -/
theorem tr_try (g : Good u N sc k X) {body : List Stmt} {h₀ : ExceptHandler} {hs : List ExceptHandler} (h : Tr X Z Γ body (behind X rest D)) : Tr X Z Γ (.Try body (h₀ :: hs) [] [] pos :: rest) D := by
  have hx := g.xe
  refine tr_of (pss_cons (ps_try_never (fun e s => by rw [hx]; exact id) pssW pss_nil) pssW) fun own σ H g => ?_
  exact h own σ H g
end
end Wd

end

section
set_option maxRecDepth 100000
set_option maxHeartbeats 4000000
namespace Wd
open PySem PySem.Spec L2
section
variable {u : Uni} {N Vn G fn : List Str} {sc : Scope} {k : Nat} {X : Cx} {Z : Zn} {Γ : List Ty} {a b c e : Expr} {es : List Expr} {P P1 P2 ret : Pr} {Ps Qs Ps1 Ps2 : List Pr} {pos p apos : Pos} {x y f m : Str} {D : Ends} {rest A B sts : List Stmt} {σ : L2.St} {H : Hp} {own : List Addr} {sp : Sp} {C0 C1 : Ct} {R : Addr → Pr}
/-! ### defs that change one argument -/
/-- the promise: the argument between Ps1 and Ps2 is an object that the def may change, from C0 to C1; R tells of the answer -/
def Pw (C0 : Ct) (Ps1 Ps2 : List Pr) (C1 : Ct) (R : Addr → Pr) (vs : List V) (H : Hp) (Q : VK) : Prop := ∃ own p l1 l2 o, vs = l1 ++ .ref p :: l2 ∧ (∀ a ∈ own, Live (H a)) ∧ p ∈ own ∧ H p = some o ∧ C0.c (hid own H) o ∧ All (hid own H) Ps1 l1 ∧ All (hid own H) Ps2 l2 ∧
  ∀ v H' o', (∀ a w, a ≠ p → H a = some w → H' a = some w) → H' p = some o' → C1.c (hid own H') o' → (R p).p (hid own H') v → Q v H'
def DRw (Z : Zn) (i : Nat) (C1 : Ct) (R : Addr → Pr) : Ends := { nx := fun σ H => ∃ own Γ G, StO { Z with G := G } own Γ σ H ∧ Γ[i]? = some (.own false C1) ∧ ∃ p, σ[i]? = some (some (.ref p)) ∧ (R p).p (hid own H) .non, rt := fun v H => ∃ own Γ σ G, StO { Z with G := G } own Γ σ H ∧ Γ[i]? = some (.own false C1) ∧ ∃ p, σ[i]? = some (some (.ref p)) ∧ (R p).p (hid own H) v }
def startW (N : List Str) (C : Ct) (Ps1 Ps2 : List Pr) : List Ty := Ps1.map Ty.val ++ .own false C :: (Ps2.map Ty.val ++ List.replicate (N.length - (Ps1.length + 1 + Ps2.length)) Ty.any)
theorem start_okW {p : Addr} {o : HO} {l1 l2 : List V} {n : Nat} (dom : ∀ a ∈ own, Live (H a)) (hp : p ∈ own) (ho : H p = some o) (hc : C0.c (hid own H) o) (h1 : All (hid own H) Ps1 l1) (h2 : All (hid own H) Ps2 l2) (hl : Ps1.length + 1 + Ps2.length ≤ n) :
    StO { H0 := H, O := own, M := [p] } own (Ps1.map Ty.val ++ .own false C0 :: (Ps2.map Ty.val ++ List.replicate (n - (Ps1.length + 1 + Ps2.length)) Ty.any)) ((l1 ++ V.ref p :: l2).map some ++ List.replicate (n - (l1 ++ V.ref p :: l2).length) none) H := by
  have e1 := h1.length
  have e2 := h2.length
  have en : n - (l1 ++ V.ref p :: l2).length = n - (Ps1.length + 1 + Ps2.length) := by rw [List.length_append, List.length_cons]; omega
  have es : (l1 ++ V.ref p :: l2).map some ++ List.replicate (n - (l1 ++ V.ref p :: l2).length) none = l1.map some ++ (some (V.ref p) :: (l2.map some ++ List.replicate (n - (Ps1.length + 1 + Ps2.length)) none)) := by
    rw [en, List.map_append, List.map_cons, List.append_assoc, List.cons_append]
  rw [es]
  have key : ∀ (i : Nat) (l : Bool) (C : Ct), (Ps1.map Ty.val ++ .own false C0 :: (Ps2.map Ty.val ++ List.replicate (n - (Ps1.length + 1 + Ps2.length)) Ty.any))[i]? = some (.own l C) → i = Ps1.length := fun i l C h => by
    rcases Nat.lt_trichotomy i Ps1.length with z | z | z
    · rw [List.getElem?_append_left (by rw [List.length_map]; exact z)] at h
      obtain ⟨P, _, e⟩ := List.mem_map.mp (List.mem_of_getElem? h)
      cases e
    · exact z
    · rw [List.getElem?_append_right (by rw [List.length_map]; omega), List.length_map] at h
      obtain ⟨j, hj⟩ : ∃ j, i - Ps1.length = j + 1 := ⟨i - Ps1.length - 1, by omega⟩
      rw [hj, List.getElem?_cons_succ] at h
      rcases List.mem_append.mp (List.mem_of_getElem? h) with z | z
      · obtain ⟨P, _, e⟩ := List.mem_map.mp z; cases e
      · have := (List.mem_replicate.mp z).2; cases this
  refine ⟨dom, fun _ h => h, fun _ h => .inl h, fun _ _ h _ => h, fun i T e => ?_, fun i j l l' C C' q h1 h2 _ _ => by rw [key i l C h1, key j l' C' h2], ?_, (fun _ _ z => nomatch z), (fun _ z => by rw [List.mem_singleton.mp z]; exact hp), fun a ha => (dom a ha).1⟩
  · rcases Nat.lt_trichotomy i Ps1.length with z | z | z
    · rw [List.getElem?_append_left (by rw [List.length_map]; exact z), List.getElem?_map] at e
      cases hP : Ps1[i]? with
      | none => rw [hP] at e; cases e
      | some P =>
        rw [hP] at e
        cases e
        obtain ⟨v, q1, q2⟩ := h1.get hP
        refine ⟨v, ?_, q2⟩
        rw [List.getD_eq_getElem?_getD, List.getElem?_append_left (by rw [List.length_map, ← e1]; exact z), List.getElem?_map, q1]
        rfl
    · subst z
      rw [List.getElem?_append_right (by rw [List.length_map]; exact Nat.le_refl _), List.length_map, Nat.sub_self] at e
      cases e
      refine ⟨p, o, ?_, hp, fun z => (nomatch z), fun _ => List.mem_cons_self, ho, hc⟩
      rw [List.getD_eq_getElem?_getD, List.getElem?_append_right (by rw [List.length_map, e1]; exact Nat.le_refl _), List.length_map, e1, Nat.sub_self]
      rfl
    · rw [List.getElem?_append_right (by rw [List.length_map]; omega), List.length_map] at e
      obtain ⟨j, hj⟩ : ∃ j, i - Ps1.length = j + 1 := ⟨i - Ps1.length - 1, by omega⟩
      rw [hj, List.getElem?_cons_succ] at e
      rw [List.getD_eq_getElem?_getD, List.getElem?_append_right (by rw [List.length_map, ← e1]; omega), List.length_map, ← e1, hj, List.getElem?_cons_succ, ← List.getD_eq_getElem?_getD]
      have := start_at (Z := { H0 := H, O := own, M := [p] }) h2 (n - (Ps1.length + 1)) j T (by rw [show n - (Ps1.length + 1) - Ps2.length = n - (Ps1.length + 1 + Ps2.length) by omega]; exact e)
      rw [show n - (Ps1.length + 1) - l2.length = n - (Ps1.length + 1 + Ps2.length) by omega] at this
      exact this
  · rw [List.length_append, List.length_append, List.length_cons, List.length_cons, List.length_append, List.length_append, List.length_map, List.length_map, List.length_map, List.length_map, List.length_replicate, List.length_replicate, e1, e2]
/-- THE RULE for a def that changes one argument -/
theorem fn_own {qual : Str} {st : Stmt} {ps : List Str} {ff : Addr} {fd : FuncData} (F : FunD u.K x qual (defArgs st) (defBody st) (defScope st) [] [] ff fd) (S : FnScope N ps (defScope st))
    (h : ∀ vs H Q, sp vs H Q E0 → ∃ C0 Ps1 Ps2 C1 R, Ps1.length + 1 + Ps2.length = ps.length ∧ Pw C0 Ps1 Ps2 C1 R vs H Q ∧ ∀ X Z, Good u N (defScope st) k X → (∀ x, X.fn x = true) → Tr X Z (startW N C0 Ps1 Ps2) (defBody st) (DRw Z Ps1.length C1 R))
    (hE : ∀ vs H Q E, sp vs H Q E → sp vs H Q E0) : FnOk u.P u.w u.K u.mg u.base CX0 (k + 1) ff fd ps sp := by
  refine FunD.ok F S (fun vs H Q E q => ?_) fun cdv A outer s H vs Q E hr q => ?_
  · obtain ⟨C0, Ps1, Ps2, C1, R, h1, ⟨own, p, l1, l2, o, rfl, _, _, _, _, a1, a2, _⟩, _⟩ := h vs H Q (hE _ _ _ _ q)
    rw [List.length_append, List.length_cons, ← a1.length, ← a2.length, ← h1]
    omega
  · obtain ⟨C0, Ps1, Ps2, C1, R, h1, ⟨own, p, l1, l2, o, rfl, d, k1, k2, k3, a1, a2, h3⟩, h4⟩ := h vs H Q (hE _ _ _ _ q)
    let X := (cxOf CX0 u.P u.w u.K u.mg u.base N qual (defScope st) ff cdv A outer s H E).nox
    have G : Good u N (defScope st) k X := ⟨rfl, rfl, rfl, rfl, hr, rfl, S.nd⟩
    have hl : Ps1.length + 1 + Ps2.length ≤ N.length := by
      have := congrArg List.length S.pre
      rw [List.length_take] at this
      omega
    have T := h4 X { H0 := H, O := own, M := [p] } G (fun _ => rfl) own _ H (start_okW (n := N.length) d k1 k2 k3 a1 a2 hl)
    have fin : ∀ {own' Γ' σ' H' G'} {q : Addr} {v : V}, StO { H0 := H, O := own, M := [p], G := G' } own' Γ' σ' H' → Γ'[Ps1.length]? = some (.own false C1) → σ'[Ps1.length]? = some (some (.ref q)) → (R q).p (hid own' H') v → Q v H' := fun {own' Γ' σ' H' G' q v} g e eq r => by
      obtain ⟨p', o', f1, f2, _, f4, f5, f6⟩ := g.at_ _ _ e
      obtain rfl : p' = p := List.mem_singleton.mp (f4 rfl)
      rw [getD_in eq] at f1
      cases f1
      exact h3 v H' o' (fun a w ne hw => g.keep a w hw (fun z => ne (List.mem_singleton.mp z))) f5 (C1.mono (hid_mono g.old (.refl H')) f6) ((R _).mono (hid_mono g.old (.refl H')) r)
    refine ⟨tWs X (defBody st), PSs.nox pssW, fun pins s' I => thn (T pins s' I) fun fl s2 z => SP.mono' z (fun σ H' ⟨own', Γ', _, g, r, q, e, r2⟩ => ?_) (fun v H' ⟨own', Γ', σ', _, g, r, q, e, r2⟩ => ?_) (fun _ _ z => z) (fun _ _ z => z)⟩
    · exact fin g r e r2
    · exact fin g r e r2
/-- return, from such a def -/
theorem tr_retW {i : Nat} (he : J X Z Γ e P) (hΓ : Γ[i]? = some (.own false C1)) (hR : ∀ p S v, P.p S v → (R p).p S v) : Tr X Z Γ (.Return (some e) pos :: rest) (DRw Z i C1 R) := tr_ret he fun own σ H v g pv => by
  obtain ⟨q, o, e1, _⟩ := g.slot hΓ
  exact ⟨own, Γ, σ, _, g, hΓ, q, e1, hR _ _ _ pv⟩
theorem tr_retWB {i : Nat} {X' : Cx} {rest' : List Stmt} (he : J X Z Γ e P) (hΓ : Γ[i]? = some (.own false C1)) (hR : ∀ p S v, P.p S v → (R p).p S v) : Tr X Z Γ (.Return (some e) pos :: rest) (behind X' rest' (DRw Z i C1 R)) := tr_ret he fun own σ H v g pv => by
  obtain ⟨q, o, e1, _⟩ := g.slot hΓ
  exact ⟨own, Γ, σ, _, g, hΓ, q, e1, hR _ _ _ pv⟩
/-- return of the argument itself -/
theorem tr_retWS {i : Nat} (g : Good u N sc k X) (nm : Nm sc Vn G) {j : Nat} (hN : At N i x) (hV : At Vn j x) (hΓ : Γ[i]? = some (.own false C1)) (hR : ∀ p S, (R p).p S (.ref p)) : Tr X Z Γ (.Return (some (.Name x p)) pos :: rest) (DRw Z i C1 R) := by
  have hv := nm.var hV
  obtain ⟨rfl, rfl, rfl, -, -, -, -⟩ := g
  obtain ⟨v1, v2, v3⟩ := okVar_vis hv
  refine tr_of (pss_cons (ps_ret (pe_var hN.get v1 v2 v3)) pss_never) fun own σ H g => ?_
  obtain ⟨q, o, e1, _⟩ := g.slot hΓ
  exact ⟨.ref q, e1, own, Γ, σ, _, g, hΓ, q, e1, hR _ _⟩
/-! ### expressions that change one owned slot -/
structure JM (X : Cx) (Z : Zn) (Γ : List Ty) (e : Expr) (i : Nat) (l : Bool) (C1 : Ct) (R : Addr → Pr) : Prop where
  run : ∀ own σ H, StO Z own Γ σ H → ∀ q, σ[i]? = some (some (.ref q)) → ∀ Q : VK, (∀ v H', StO Z own (Γ.set i (.own l C1)) σ H' → Same (hid own H) (hid own H') → (R q).p (hid own H') v → Q v H') → tW X e σ H Q
theorem same_but {p : Addr} {H H' : Hp} (hp : p ∈ own) (h : ∀ a w, a ≠ p → H a = some w → H' a = some w) : Same (hid own H) (hid own H') := fun a w e => by
  obtain ⟨h1, h2⟩ := hid_some e
  rw [hid_out h1]
  exact h a w (fun z => h1 (z ▸ hp)) h2
theorem StO.changed {i : Nat} {l : Bool} {p : Addr} {o' : HO} {H' : Hp} (g : StO Z own Γ σ H) (hΓ : Γ[i]? = some (.own l C0)) (hp : σ[i]? = some (some (.ref p))) (k1 : ∀ a w, a ≠ p → H a = some w → H' a = some w) (k2 : H' p = some o') (k3 : C1.c (hid own H') o') : StO Z own (Γ.set i (.own l C1)) σ H' := by
  obtain ⟨pp, o, e1, m1, e2, cc⟩ := g.slot hΓ
  rw [hp] at e1
  obtain rfl : p = pp := by injection e1 with e; injection e with e; injection e
  have sm : Same H (upd H' p o) := fun b w e => by
    by_cases z : b = p
    · subst z
      rw [upd_same, ← e2]; exact e
    · rw [upd_ne z]; exact k1 b w z e
  have hh : hid own (upd H' p o) = hid own H' := hid_upd m1
  have gw := (g.grow sm).write (C' := C1) (o := o') hΓ hp (by rw [hh]; exact k3)
  rw [upd_upd] at gw
  have e : upd H' p o' = H' := by
    funext b
    by_cases z : b = p
    · subst z; rw [upd_same]; exact k2.symm
    · rw [upd_ne z]
  rwa [e] at gw
/-- x.m(..) changes the instance in slot i -/
theorem jm_meth {pl : Sem Bool} {py : Pos} {C : Addr} {fs0 : List (Str × Pr)} {i : Nat} {l : Bool} (g : Good u N sc k X) {j : Nat} (M : MC u C m j sp) (hj : j ≤ k) (hN : N[i]? = some y) (hv : okVar sc y = true) (hΓ : Γ[i]? = some (.own l (ownI C fs0))) (hl : fs0.lookup m = none)
    (hsp : ∀ vs H Q, Pw (ownI C fs0) [] Ps C1 R vs H Q → sp vs H Q E0) (ha : JA X Z Γ (e :: es) Ps)
    (hst : starEach (e :: es) X.env = (false, eval e X.env) :: starEach es X.env) (hpl : (backTo pos (starEach es X.env)).any (·.1) = false)
    (ht : eval (.Call (.Attribute (.Name y py) m apos) (e :: es) [] pos) X.env = (do
      let ov ← eval (.Name y py) X.env
      standAt apos.atName
      let (f, first) ← holding [ov] (getMethod ov m pl)
      callWith pos f first (backTo pos (starEach (e :: es) X.env)) (backToKw pos (keywordEach [] X.env)))) : JM X Z Γ (.Call (.Attribute (.Name y py) m apos) (e :: es) [] pos) i l C1 R := by
  obtain ⟨rfl, rfl, rfl, -, hr, -, -⟩ := g
  obtain ⟨f, fd, ps, h1, h2, h3, h4⟩ := M.ex
  obtain ⟨t, a1, a2⟩ := ha
  obtain ⟨v1, v2, v3⟩ := okVar_vis hv
  refine ⟨fun own σ H g q hq Q qq pins s I => (pe_meth (pl := pl) (pe_var hN v1 v2 v3) h1 h2 h4 (hr.mono hj) h3 .nil pass0 a1 hst hpl ht).run pins s σ H Q I ?_⟩
  obtain ⟨pp, o, e1, m1, e2, dx, vs, rfl, hf⟩ := g.slot hΓ
  rw [hq] at e1
  obtain rfl : q = pp := by injection e1 with e; injection e with e; injection e
  refine ⟨.ref q, hq, q, dx, vs, rfl, e2, hf.no hl, a2 own σ H g _ fun ws H2 s2 p2 => ?_⟩
  rw [List.append_nil]
  have g2 := g.grow s2
  refine hsp _ _ _ ⟨own, q, [], ws, _, rfl, g2.dom, m1, s2 _ _ e2, ⟨dx, vs, rfl, hf.mono (hid_grow s2)⟩, .nil, p2, fun v H' o' k1 k2 k3 k4 => ?_⟩
  exact qq v H' (g2.changed hΓ hq k1 k2 k3) ((hid_grow s2).trans (same_but m1 k1)) k4
/-- f(a, x) changes what slot i holds -/
theorem jm_call2 {py : Pos} {i : Nat} {l : Bool} {j : Nat} (g : Good u N sc k X) (F : Callable u x j sp []) (hj : j ≤ k) (hN : N[i]? = some y) (hv : okVar sc y = true) (hΓ : Γ[i]? = some (.own l C0)) (hsp : ∀ vs H Q, Pw C0 [P] [] C1 R vs H Q → sp vs H Q E0) (ha : J X Z Γ a P) (hg : okGl sc x = true)
    (hs : starEach [a, .Name y py] X.env = (false, eval a X.env) :: starEach [.Name y py] X.env) (hs2 : starEach [.Name y py] X.env = (false, eval (.Name y py) X.env) :: starEach [] X.env) (hpl : (backTo pos (starEach [.Name y py] X.env)).any (·.1) = false) : JM X Z Γ (.Call (.Name x p) [a, .Name y py] [] pos) i l C1 R := by
  obtain ⟨rfl, rfl, rfl, -, hr, -, -⟩ := g
  obtain ⟨f, fd, ps, ds, h1, h2, h3, h4, h5⟩ := F.ex
  obtain ⟨v1, v2, v3⟩ := okVar_vis hv
  obtain ⟨g1, g2, _⟩ := okGl_gl hg
  refine ⟨fun own σ H g q hq Q qq pins s I => (pe_call h5 (hr.mono hj) g1 h1 h2 h3 h4 pass0 (pa_cons peW (pa_cons (pe_var hN v1 v2 v3) pa_nil hs2) hs) g2 hs hpl).run pins s σ H Q I ?_⟩
  refine ha own σ H g _ fun v H1 s1 p1 => ⟨.ref q, hq, ?_⟩
  obtain ⟨pp, o, e1, m1, e2, cc⟩ := (g.grow s1).slot hΓ
  rw [hq] at e1
  obtain rfl : q = pp := by injection e1 with e; injection e with e; injection e
  refine hsp _ _ _ ⟨own, q, [v], [], o, rfl, (g.grow s1).dom, m1, e2, cc, .cons p1 .nil, .nil, fun v' H' o' k1 k2 k3 k4 => ?_⟩
  exact qq v' H' ((g.grow s1).changed hΓ hq k1 k2 k3) ((hid_grow s1).trans (same_but m1 k1)) k4
/-- f(e), e so -/
theorem jm_call1 {i : Nat} {l : Bool} {j : Nat} (g : Good u N sc k X) (F : Callable u x j sp []) (hj : j ≤ k) (he : JM X Z Γ e i l C1 (fun _ => P)) (hsp : ∀ vs H Q, Pf [P] ret vs H Q → sp vs H Q E0) (hg : okGl sc x = true)
    (hs : starEach [e] X.env = (false, eval e X.env) :: starEach [] X.env) : JM X Z Γ (.Call (.Name x p) [e] [] pos) i l C1 (fun _ => ret) := by
  obtain ⟨rfl, rfl, rfl, -, hr, -, -⟩ := g
  obtain ⟨f, fd, ps, ds, h1, h2, h3, h4, h5⟩ := F.ex
  obtain ⟨g1, g2, _⟩ := okGl_gl hg
  refine ⟨fun own σ H g q hq Q qq pins s I => (pe_call h5 (hr.mono hj) g1 h1 h2 h3 h4 pass0 (pa_cons peW pa_nil hs) g2 hs rfl).run pins s σ H Q I ?_⟩
  refine he.run own σ H g q hq _ fun v H1 g1 s1 p1 => ?_
  exact hsp _ _ _ ⟨own, g1.dom, .cons p1 .nil, fun v' H' s p => qq v' H' (g1.grow s) (s1.trans (hid_grow s)) p⟩
theorem tr_letM {i j : Nat} {l : Bool} (g : Good u N sc k X) (hf : ∀ x, X.fn x = true) (hN : N[j]? = some x) (hl : okLoc sc x = true) (he : JM X Z Γ e i l C1 (fun _ => P)) (hΓ : Γ[i]? = some (.own l C0)) (h : Tr X Z ((Γ.set i (.own l C1)).set j (.val P)) rest D)
    (hj : Nat.blt j Γ.length = true) (hs : swapsWith e (some (.Name x p)) pos.line X.env = pure false) : Tr X Z Γ (.Assign [.Name x p] e pos :: rest) D := by
  obtain ⟨l1, l2⟩ := g.hf hf hl
  obtain ⟨rfl, rfl, rfl, -, -, -, nd⟩ := g
  refine tr_of (pss_cons (ps_set (i := j) nd hN l1 peW hs l2) pssW) fun own σ H g => ?_
  obtain ⟨q, o, e1, _⟩ := g.slot hΓ
  refine he.run own σ H g q e1 _ fun v H1 g1 s1 p1 => ?_
  exact h own _ H1 (g1.set (by rw [List.length_set]; rw [Nat.blt_eq] at hj; exact hj) p1)
theorem tr_exprM {i : Nat} {l : Bool} (he : JM X Z Γ e i l C1 R) (hΓ : Γ[i]? = some (.own l C0)) (h : Tr X Z (Γ.set i (.own l C1)) rest D) (hs : swapsWith e none pos.line X.env = pure false) : Tr X Z Γ (.Expr e pos :: rest) D :=
  tr_of (pss_cons (ps_expr peW hs) pssW) fun own σ H g => by
    obtain ⟨q, o, e1, _⟩ := g.slot hΓ
    exact he.run own σ H g q e1 _ fun v H1 g1 s1 p1 => h own σ H1 g1
/-- xs.append(e), e so -/
theorem tr_appendM {i j : Nat} {l l' : Bool} (g : Good u N sc k X) (hj : Γ[j]? = some (.own l' (ownL Ps))) (hij : i ≠ j) (hN : N[j]? = some x) (hv : okVar sc x = true) (he : JM X Z Γ e i l C1 (fun _ => P)) (hΓ : Γ[i]? = some (.own l C0)) (hsz : Ps.length ≤ 1000) (h : Tr X Z ((Γ.set i (.own l C1)).set j (.own l' (ownL (Ps ++ [P])))) rest D)
    (hbase : attributeBase (.Name x p) "append" X.env (eval (.Name x p) X.env) = eval (.Name x p) X.env)
    (hfew : ((backTo pos (starEach [e] X.env)).all (fun x => !x.1) && (backToKw pos (keywordEach [] X.env)).all (fun x => x.1.isSome) && decide ([e].length + ([] : List Keyword).length + (if ([] : List Keyword).isEmpty then 0 else 1) < 30)) = true)
    (hline : (apos.endLine == pos.line) = true) (hs : starEach [e] X.env = (false, eval e X.env) :: starEach [] X.env) {pos2 : Pos} (hsw : swapsWith (.Call (.Attribute (.Name x p) "append" apos) [e] [] pos) none pos2.line X.env = pure false) :
    Tr X Z Γ (.Expr (.Call (.Attribute (.Name x p) "append" apos) [e] [] pos) pos2 :: rest) D := by
  obtain ⟨rfl, rfl, rfl, -, -, -, -⟩ := g
  obtain ⟨h1, h2, h3⟩ := okVar_vis hv
  refine tr_of (pss_cons (ps_expr (pe_bm PySem.F.plainAttrs_list PySem.F.slot_list_append PySem.F.type_list_append mt_append (pe_var hN h1 h2 h3) (pa_cons peW pa_nil hs) hbase hfew hline hs rfl) hsw) pssW) fun own σ H g => ?_
  obtain ⟨q0, o0, e0, _⟩ := g.slot hΓ
  obtain ⟨q1, o, e1, m1, e2, vs, rfl, hall⟩ := g.slot hj
  refine ⟨.ref q1, e1, .inl ⟨rfl, vs, SqL.of e2⟩, he.run own σ H g q0 e0 _ fun v H1 g1 s1 p1 => ?_⟩
  have hj1 : (Γ.set i (.own l C1))[j]? = some (.own l' (ownL Ps)) := by rw [List.getElem?_set, if_neg hij]; exact hj
  obtain ⟨q2, o2, f1, m2, f2, vs2, rfl, hall2⟩ := g1.slot hj1
  rw [e1] at f1
  obtain rfl : q1 = q2 := by injection f1 with e; injection e with e; injection e
  refine ⟨q1, vs2, v, rfl, rfl, f2, small1000 (by rw [← hall2.length]; exact hsz), ?_⟩
  exact h own σ _ (g1.write hj1 e1 ⟨_, rfl, hall2.append (.cons p1 .nil)⟩)
/-! ### an owned instance, looked at -/
theorem StO.thaw1 {i : Nat} {l : Bool} (g : StO Z own Γ σ H) (hΓ : Γ[i]? = some (.own l C0)) : ∃ p o, σ[i]? = some (some (.ref p)) ∧ p ∈ own ∧ H p = some o ∧ C0.c (hid own H) o ∧ Same (hid own H) (hid (own.filter fun a => decide (a ≠ p)) H) ∧ hid (own.filter fun a => decide (a ≠ p)) H p = some o := by
  obtain ⟨p, o, e1, m1, e2, cc⟩ := g.slot hΓ
  have hn : p ∉ own.filter fun a => decide (a ≠ p) := fun z => (of_decide_eq_true (List.mem_filter.mp z).2) rfl
  exact ⟨p, o, e1, m1, e2, cc, hid_mono (fun a ha => (List.mem_filter.mp ha).1) (.refl H), (hid_out hn).trans e2⟩
/-- x.m(..), a method that changes nothing, x an owned instance; the answer tells nothing of the heap -/
theorem j_methO {pl : Sem Bool} {py : Pos} {C : Addr} {fs0 : List (Str × Pr)} {i : Nat} {l : Bool} (g : Good u N sc k X) {j : Nat} (M : MC u C m j sp) (hj : j ≤ k) (hN : N[i]? = some y) (hv : okVar sc y = true) (hΓ : Γ[i]? = some (.own l (ownI C fs0))) (hl : fs0.lookup m = none)
    (hsp : ∀ vs H Q, Pf (isIns C fs0 :: Ps) ret vs H Q → sp vs H Q E0) (hret : Plain ret) (ha : JA X Z Γ (e :: es) Ps)
    (hst : starEach (e :: es) X.env = (false, eval e X.env) :: starEach es X.env) (hpl : (backTo pos (starEach es X.env)).any (·.1) = false)
    (ht : eval (.Call (.Attribute (.Name y py) m apos) (e :: es) [] pos) X.env = (do
      let ov ← eval (.Name y py) X.env
      standAt apos.atName
      let (f, first) ← holding [ov] (getMethod ov m pl)
      callWith pos f first (backTo pos (starEach (e :: es) X.env)) (backToKw pos (keywordEach [] X.env)))) : J X Z Γ (.Call (.Attribute (.Name y py) m apos) (e :: es) [] pos) ret := by
  obtain ⟨rfl, rfl, rfl, -, hr, -, -⟩ := g
  obtain ⟨f, fd, ps, h1, h2, h3, h4⟩ := M.ex
  obtain ⟨t, a1, a2⟩ := ha
  obtain ⟨v1, v2, v3⟩ := okVar_vis hv
  refine j_of (pe_meth (pl := pl) (pe_var hN v1 v2 v3) h1 h2 h4 (hr.mono hj) h3 .nil pass0 a1 hst hpl ht) fun own σ H g Q q => ?_
  obtain ⟨pp, o, e1, m1, e2, dx, vs, rfl, hf⟩ := g.slot hΓ
  refine ⟨.ref pp, e1, pp, dx, vs, rfl, e2, hf.no hl, a2 own σ H g _ fun ws H2 s2 p2 => ?_⟩
  rw [List.append_nil]
  have g2 := g.grow s2
  obtain ⟨p', o', f1, _, f2, ⟨dx', vs', rfl, hf'⟩, sm, hp⟩ := g2.thaw1 hΓ
  rw [e1] at f1
  obtain rfl : pp = p' := by injection f1 with e; injection e with e; injection e
  refine hsp _ _ _ ⟨own.filter fun a => decide (a ≠ pp), fun a ha => g2.dom a (List.mem_filter.mp ha).1, .cons ⟨pp, dx', vs', rfl, hp, hf'.mono sm⟩ (p2.mono sm), fun v H' s p => q v H' (s2.trans s) (hret _ _ _ p)⟩
/-- x.f += n -/
theorem tr_fldaug (g : Good u N sc k X) {C : Addr} (cf : CF u.K fn C) {fs : List (Str × Pr)} {i j : Nat} {l : Bool} {n d : Int} {py pf : Pos} (hn : At fn j f) (hN : N[i]? = some y) (hv : okVar sc y = true) (hΓ : Γ[i]? = some (.own l (ownI C fs))) (hf : fs.lookup f = some (isI n)) (hl : fs.length ≤ 100) (he : J X Z Γ e (isI d))
    (h : Tr X Z (Γ.set i (.own l (ownI C (putP f (isI (n + d)) fs)))) rest D) : Tr X Z Γ (.AugAssign (.Attribute (.Name y py) f pf) .Add e pos :: rest) D := by
  obtain ⟨rfl, rfl, rfl, -, hr, -, -⟩ := g
  obtain ⟨v1, v2, v3⟩ := okVar_vis hv
  refine tr_of (pss_cons (ps_fldaug (pe_var hN v1 v2 v3) peW in_add) pssW) fun own σ H g => ?_
  obtain ⟨pp, o, e1, m1, e2, dx, vs, rfl, hfs⟩ := g.slot hΓ
  obtain ⟨w, l1, l2⟩ := hfs.get hf
  refine ⟨.ref pp, e1, pp, C, dx, vs, w, rfl, e2, cf.cls, cf.na f hn.mem, l1, he own σ H g _ fun v H1 s1 p1 => ?_⟩
  refine ⟨n, d, l2, p1, dx, vs, s1 _ _ e2, by rw [← hfs.length]; omega, ?_⟩
  have hf1 := hfs.mono (hid_grow s1)
  exact h own σ _ ((g.grow s1).write (C' := ownI C (putP f (isI (n + d)) fs)) hΓ e1 ⟨dx, _, rfl, hf1.put (P := isI (n + d)) rfl⟩)
end
end Wd

end

section
set_option maxRecDepth 100000
set_option maxHeartbeats 4000000
namespace Wd
open PySem PySem.Spec L2
theorem tab_put {ps : List (Str × Str)} {k v : Str} (h : k ∉ ps.map (·.1)) : putK (tabV ps) (Sum.inr k) (V.str v) = tabV (ps ++ [(k, v)]) := by
  have e : valV (tabV ps) (Sum.inr k) = none := by
    rw [tab_val]
    have : ps.lookup k = none := by
      induction ps with
      | nil => rfl
      | cons p ps ih =>
        rw [List.lookup_cons]
        have h1 : (k == p.1) = false := by
          rw [beq_eq_false_iff_ne]
          exact fun z => h (by rw [z]; simp)
        rw [h1]
        exact ih fun z => h (List.mem_cons_of_mem _ z)
    rw [this]; rfl
  rw [putK_new _ e]
  unfold tabV
  rw [List.map_append]
  rfl
section
variable {u : Uni} {N Vn G : List Str} {sc : Scope} {k : Nat} {X : Cx} {Z : Zn} {Γ : List Ty} {a b c e : Expr} {pos p apos : Pos} {x : Str} {D : Ends} {rest : List Stmt}
theorem tr_putK (g : Good u N sc k X) {i : Nat} {l : Bool} {ps : List (Str × Str)} {s t : Str} (hN : N[i]? = some x) (hv : okVar sc x = true) (hΓ : Γ[i]? = some (.own l (ownDK ps))) (he : J X Z Γ e (isS t)) (hb : J X Z Γ b (isS s)) (hk : s ∉ ps.map (·.1)) (hn : ps.length ≤ 1000) {ps' : Pos}
    (hs : swapsWith e (some (.Subscript (.Name x p) b ps')) pos.line X.env = pure false)
    (h : Tr X Z (Γ.set i (.own l (ownDK (ps ++ [(s, t)])))) rest D) : Tr X Z Γ (.Assign [.Subscript (.Name x p) b ps'] e pos :: rest) D := by
  obtain ⟨rfl, rfl, rfl, -, hr, -, -⟩ := g
  obtain ⟨h1, h2, h3⟩ := okVar_vis hv
  refine tr_of (pss_cons (ps_dput (by have := hr.units; omega) (pe_var hN h1 h2 h3) peW peW hs) pssW) fun own σ H g => he own σ H g _ fun v H1 s1 p1 => ?_
  obtain ⟨q1, o, e1, m1, e2, rfl⟩ := g.slot hΓ
  refine ⟨.ref q1, e1, hb own σ H1 (g.grow s1) _ fun w H2 s2 p2 => ?_⟩
  have hl : (tabV ps).length < sizeLine := by unfold tabV; rw [List.length_map, sizeLine_eq]; omega
  rw [show v = _ from p1, show w = _ from p2]
  refine ⟨q1, _, rfl, DPut.k (k := Sum.inr s) ((s1.trans s2) _ _ e2) hl, ?_⟩
  rw [tab_put hk]
  exact h own σ _ ((g.grow (s1.trans s2)).write (C' := ownDK (ps ++ [(s, t)])) hΓ e1 rfl)
end
end Wd

end

section
set_option maxRecDepth 100000
set_option maxHeartbeats 4000000
namespace Wd
open PySem PySem.Spec L2
/-! ### a table of things by texts -/
def dicV : List Str → List V → List (Key × V)
  | n :: ns, w :: ws => (Sum.inr n, w) :: dicV ns ws
  | _, _ => []
section
variable {α : Type} {xs : List α} {nf : α → Str} {pf : α → Pr}
def isDX (xs : List α) (nf : α → Str) (pf : α → Pr) : Pr := ⟨fun S v => ∃ a ws, v = .ref a ∧ S a = some (.dK (dicV (xs.map nf) ws)) ∧ All S (xs.map pf) ws, fun s ⟨a, ws, e, h, q⟩ => ⟨a, ws, e, s _ _ h, q.mono s⟩⟩
theorem dicV_keys : ∀ {ns : List Str} {ws : List V}, ns.length = ws.length → (dicV ns ws).map (·.1) = ns.map Sum.inr
  | [], [], _ => rfl
  | n :: ns, w :: ws, h => by
    rw [dicV, List.map_cons, List.map_cons, dicV_keys (by simpa using h)]
theorem dicV_val {x : α} : ∀ {xs : List α} {ws : List V} {S : Hp}, All S (xs.map pf) ws → (xs.map nf).Nodup → x ∈ xs → ∃ w, valV (dicV (xs.map nf) ws) (Sum.inr (nf x)) = some w ∧ (pf x).p S w
  | [], _, _, _, _, h => by cases h
  | y :: ys, _, S, .cons (v := w) (vs := ws) h1 h2, nd, h => by
    rw [List.map_cons] at nd
    obtain ⟨n1, n2⟩ := List.nodup_cons.mp nd
    rw [List.map_cons, dicV]
    rcases List.mem_cons.mp h with rfl | h
    · exact ⟨w, valV_pos rfl, h1⟩
    · obtain ⟨w2, e, p⟩ := dicV_val h2 n2 h
      refine ⟨w2, ?_, p⟩
      rw [valV_neg (p := (Sum.inr (nf y), w)) (fun z => n1 (by rw [Sum.inr.inj z]; exact List.mem_map_of_mem h))]
      exact e
theorem valV_none {kvs : List (Key × V)} {k : Key} (h : k ∉ kvs.map (·.1)) : valV kvs k = none := by
  induction kvs with
  | nil => rfl
  | cons p r ih =>
    rw [valV_neg (fun z => h (by rw [← z]; simp))]
    exact ih fun z => h (List.mem_cons_of_mem _ z)
theorem merge_new : ∀ {more kvs : List (Key × V)}, ((kvs ++ more).map (·.1)).Nodup → mergeK kvs more = kvs ++ more
  | [], kvs, _ => by rw [List.append_nil]; rfl
  | p :: r, kvs, nd => by
    have e : valV kvs p.1 = none := by
      refine valV_none fun z => ?_
      rw [List.map_append] at nd
      exact (List.nodup_append.mp nd).2.2 _ z _ (by simp) rfl
    show mergeK (putK kvs p.1 p.2) r = _
    rw [putK_new _ e, merge_new (by rw [List.append_assoc]; exact nd), List.append_assoc]
    rfl
theorem pairs_of {K : PySem.W.Frag} {own : List Addr} {H : Hp} : ∀ {xs : List α} {vs : List V}, All (hid own H) (xs.map fun x => isTt [isS (nf x), pf x]) vs → ∃ (as : List Addr) (ws : List V), vs = as.map V.ref ∧ Paired (fun p kv => SqT K H p [kV kv.1, kv.2]) as (dicV (xs.map nf) ws) ∧ All (hid own H) (xs.map pf) ws
  | [], _, .nil => ⟨[], [], rfl, .nil, .nil⟩
  | x :: xs, _, .cons h t => by
    obtain ⟨as, ws, rfl, p, q⟩ := pairs_of (K := K) t
    obtain ⟨a, vs, rfl, h1, h2⟩ := h
    obtain ⟨v, w, rfl, e1, e2⟩ := all2 h2
    rw [show v = _ from e1] at h1
    exact ⟨a :: as, w :: ws, rfl, .cons (SqT.of (hid_some h1).2) p, .cons e2 q⟩
section
variable {u : Uni} {N Vn G : List Str} {sc : Scope} {k : Nat} {X : Cx} {Z : Zn} {Γ : List Ty} {a b c e : Expr} {P : Pr} {pos p apos : Pos} {x : Str} {D : Ends} {rest : List Stmt}
theorem cal_dictX {K : PySem.W.Frag} (hK : K = X.K) (hc : X.calm = true) (h : LstP K P (xs.map fun x => isTt [isS (nf x), pf x])) (nd : (xs.map nf).Nodup) : CalR X (.type "dict") [P] (isDX xs nf pf) := ⟨_, call_dictP hc, fun own H vs dm q Q k => by
  subst hK
  obtain ⟨v, rfl, h1⟩ := all1 q
  obtain ⟨a, ws, rfl, h2, h3⟩ := h _ _ h1
  obtain ⟨as, us, rfl, h4, h5⟩ := pairs_of (K := X.K) h3
  have e : mergeK [] (dicV (xs.map nf) us) = dicV (xs.map nf) us := by
    rw [merge_new]
    · rfl
    · rw [List.nil_append, dicV_keys (by rw [List.length_map, ← h5.length, List.length_map])]
      exact List.pairwise_map.mpr (List.Pairwise.imp (fun h z => h (Sum.inr.inj z)) nd)
  refine ⟨a, as, _, rfl, L2.Same.seq hid_sub h2, h4, fun p hp => ?_⟩
  have s2 : Same H (upd H p (.dK (mergeK [] (dicV (xs.map nf) us)))) := same_new hp
  refine k _ _ s2 ⟨p, us, rfl, (hid_out fun z => dm p z hp).trans (by rw [upd_same, e]), h5.mono (hid_grow s2)⟩⟩
theorem jb_dictX (g : Good u N sc k X) (bt : Bts u) (nm : Nm sc Vn G) {j : Nat} (hG : At G j "dict") (ha : J X Z Γ a P) (h : LstP u.K P (xs.map fun x => isTt [isS (nf x), pf x])) (nd : (xs.map nf).Nodup) (hs : starEach [a] X.env = (false, eval a X.env) :: starEach [] X.env) : J X Z Γ (.Call (.Name "dict" p) [a] [] pos) (isDX xs nf pf) :=
  j_callT g bt.dict (by first | exact PySem.boot_dict | exact PyProof.Rows.boot_dict | exact PySem.P.boot_dict | exact PySem.W.boot_dict | decide +kernel) (ja_cons ha ja_nil hs) (cal_dictX (congrArg Uni.K g.eu) g.calm h nd) (nm.gl hG) hs rfl
/-- d[k] -/
theorem j_dgetX {y : α} (g : Good u N sc k X) (ha : J X Z Γ a (isDX xs nf pf)) (hb : J X Z Γ b (isS (nf y))) (nd : (xs.map nf).Nodup) (hy : y ∈ xs) (hs : NoSl b) : J X Z Γ (.Subscript a b pos) (pf y) := by
  obtain ⟨rfl, -, -, -, hr, -, -⟩ := g
  refine j_of (pe_dget (by have := hr.un; omega) peW peW hs) fun own σ H g Q q => ha own σ H g _ fun v H1 s1 p1 => hb own σ H1 (g.grow s1) _ fun w H2 s2 p2 => ?_
  obtain ⟨ad, ws, rfl, h1, h2⟩ := (isDX xs nf pf).mono (hid_grow s2) p1
  obtain ⟨z, e1, e2⟩ := dicV_val (nf := nf) h2 nd hy
  rw [show w = _ from p2]
  exact ⟨ad, z, rfl, by have := DGet.k (k := Sum.inr (nf y)) (hid_some h1).2; rw [e1] at this; exact this, q z H2 (s1.trans s2) e2⟩
/-- list(d) -/
theorem dicV_list : ∀ {ns : List Str} {ws : List V}, ns.length = ws.length → ((dicV ns ws).map fun kv => kV kv.1) = ns.map V.str
  | [], [], _ => rfl
  | n :: ns, w :: ws, h => by
    rw [dicV, List.map_cons, List.map_cons, dicV_list (by simpa using h)]
    rfl
theorem caln_listX (hc : X.calm = true) : CalN X (.type "list") [isDX xs nf pf] (ownL ((xs.map nf).map isS)) := ⟨_, call_list_dK hc, fun own H vs dm q Q k => by
  obtain ⟨v, rfl, a, ws, rfl, h1, h2⟩ := all1 q
  refine ⟨a, _, rfl, (hid_some h1).2, fun l hl => ?_⟩
  rw [dicV_list (by rw [List.length_map, ← h2.length, List.length_map])]
  exact k l _ _ (same_new hl) hl upd_same ⟨_, rfl, by
    have : ∀ ns : List Str, All (hid (l :: own) (upd H l (.lst ((xs.map nf).map V.str)))) (ns.map isS) (ns.map V.str) := fun ns => by
      induction ns with
      | nil => exact .nil
      | cons n ns ih => exact .cons rfl ih
    exact this _⟩⟩
theorem jb_listX (g : Good u N sc k X) (bt : Bts u) (nm : Nm sc Vn G) {j : Nat} (hG : At G j "list") (ha : J X Z Γ a (isDX xs nf pf)) (hs : starEach [a] X.env = (false, eval a X.env) :: starEach [] X.env) : J X Z Γ (.Call (.Name "list" p) [a] [] pos) (isL ((xs.map nf).map isS)) :=
  J.new (jn_callT g bt.list (by first | exact PySem.boot_list | exact PyProof.Rows.boot_list | exact PySem.P.boot_list | exact PySem.W.boot_list) (ja_cons ha ja_nil hs) (caln_listX g.calm) (nm.gl hG) hs rfl) own_L
end
end
end Wd

end

section
set_option maxRecDepth 100000
set_option maxHeartbeats 8000000
/-! sorted(zip(xs, ys)), xs a list of ints, ys one of texts -/
namespace Wd.SZ
open PySem PySem.Spec PyProof.Rows PySem.W
theorem zip_no_len : typeLookup (.type "zip") "__len__" = pure none := by rw [typeLookup_type, builtinLookup_eq_fast]; kernel_rfl
theorem zip_no_hint : typeLookup (.type "zip") "__length_hint__" = pure none := by rw [typeLookup_type, builtinLookup_eq_fast]; kernel_rfl
/-- a zip at its i-th turn; T: the pair it gave out last, still there; not at S -/
def ZSt (z TI TO i1 i2 l1 l2 S : Addr) (xs ys : Array Value) (i : Nat) (h : Heap) : Prop :=
  IsPair h TI (.ref i1) (.ref i2) ∧ h.IsListIter i1 l1 i ∧ h.IsListIter i2 l2 i ∧ h.IsList l1 xs ∧ h.IsList l2 ys ∧
    ((IsZip h z TI TO .none ∧ ∃ a b, IsPair h TO a b) ∨ ∃ T f oT, IsZipHeld h z TI TO T f ∧ h.get? T = some oT ∧ T ≠ z ∧ T ≠ i1 ∧ T ≠ i2 ∧ T ≠ S)
theorem ZSt.keep {z TI TO i1 i2 l1 l2 S : Addr} {xs ys : Array Value} {i : Nat} {h h' : Heap} (st : ZSt z TI TO i1 i2 l1 l2 S xs ys i h) (hS : ∀ b ∈ [z, TI, TO, i1, i2, l1, l2], b ≠ S) (hk : ∀ b o, b ≠ S → h.get? b = some o → h'.get? b = some o) : ZSt z TI TO i1 i2 l1 l2 S xs ys i h' := by
  obtain ⟨hTI, h1, h2, hl1, hl2, hz⟩ := st
  refine ⟨hk _ _ (hS TI (by simp)) hTI, h1.at fun o e => hk _ o (hS i1 (by simp)) e, h2.at fun o e => hk _ o (hS i2 (by simp)) e, hl1.at fun o e => hk _ o (hS l1 (by simp)) e, hl2.at fun o e => hk _ o (hS l2 (by simp)) e, ?_⟩
  rcases hz with ⟨hz, a, b, hTO⟩ | ⟨T, f, oT, hz, hT, r1, r2, r3, r4⟩
  · exact .inl ⟨hk _ _ (hS z (by simp)) hz, a, b, hk _ _ (hS TO (by simp)) hTO⟩
  · exact .inr ⟨T, f, oT, hk _ _ (hS z (by simp)) hz, hk _ _ r4 hT, r1, r2, r3, r4⟩
/-- the pairs made so far -/
structure ZMade (xs ys : Array Value) (lo : Addr) (h : Heap) (as : List Addr) : Prop where
  rise : as.Pairwise (· < ·)
  above : ∀ a ∈ as, lo ≤ a
  there : ∀ a ∈ as, a < h.objs.size
  pairs : ∀ (j : Nat) (a : Addr), as[j]? = some a → ∃ x y, xs[j]? = some x ∧ ys[j]? = some y ∧ IsPair h a x y
section
variable {prog : Program} {w : World} {A : Around} {E : Value → Shared → Prop} {s : Shared} {z TI TO i1 i2 l1 l2 : Addr} {xs ys : Array Value}
theorem next_item {S : Addr} {i : Nat} {Q : Option Value → Shared → Prop} (D : ZipApart z TI TO i1 i2 l1 l2) (hl : ∀ b ∈ [z, TI, TO, i1, i2, l1, l2, S], b < s.heap.objs.size) (st : ZSt z TI TO i1 i2 l1 l2 S xs ys i s.heap) (hx : i < xs.size) (hy : i < ys.size)
    (hQ : ∀ h', ZSt z TI TO i1 i2 l1 l2 S xs ys (i + 1) h' → IsPair h' s.heap.objs.size (xs[i]) (ys[i]) → h'.objs.size = s.heap.objs.size + 1 → (∀ c o, c ∉ [z, TO, i1, i2] → s.heap.get? c = some o → h'.get? c = some o) → Q (some (.ref s.heap.objs.size)) { s with heap := h' }) :
    wpAny (model prog w) A (pyNext (.ref z)) Q E s := by
  obtain ⟨hTI, h1, h2, hl1, hl2, hz⟩ := st
  have ex := Array.getElem?_eq_getElem hx
  have ey := Array.getElem?_eq_getElem hy
  have lt : ∀ b ∈ [z, TI, TO, i1, i2, l1, l2, S], s.heap.objs.size ≠ b := fun b hb => Nat.ne_of_gt (hl b hb)
  rcases hz with ⟨hz, a, b, hTO⟩ | ⟨T, f, oT, hz, hT, r1, r2, r3, r4⟩
  · refine wpAny_pyNext_zip_item D hz hTI hTO h1 h2 hl1 hl2 ex ey fun h' a1 a2 a3 a4 a5 a6 hk => ?_
    exact hQ h' ⟨hk _ _ D.TIz D.TITO D.TIi1 D.TIi2 hTI, a3, a4, hl1.at fun o e => hk _ o D.l1z D.l1TO D.l1i1 D.l1i2 e, hl2.at fun o e => hk _ o D.l2z D.l2TO D.l2i1 D.l2i2 e,
        .inr ⟨s.heap.objs.size, false, _, a1, a5, lt z (by simp), lt i1 (by simp), lt i2 (by simp), lt S (by simp)⟩⟩ a5 a6
      fun c o hc e => hk c o (fun q => hc (by simp [q])) (fun q => hc (by simp [q])) (fun q => hc (by simp [q])) (fun q => hc (by simp [q])) e
  · refine wpAny_pyNext_zip_item_held D hz hT hTI h1 h2 hl1 hl2 ex ey fun h' a1 a3 a4 a5 a6 hk => ?_
    exact hQ h' ⟨hk _ _ D.TIz D.TIi1 D.TIi2 hTI, a3, a4, hl1.at fun o e => hk _ o D.l1z D.l1i1 D.l1i2 e, hl2.at fun o e => hk _ o D.l2z D.l2i1 D.l2i2 e,
        .inr ⟨T, true, oT, a1, hk _ _ r1 r2 r3 hT, r1, r2, r3, r4⟩⟩ a5 a6
      fun c o hc e => hk c o (fun q => hc (by simp [q])) (fun q => hc (by simp [q])) (fun q => hc (by simp [q])) e
theorem next_end {S : Addr} {i : Nat} {Q : Option Value → Shared → Prop} (hh : A.handled = none) (D : ZipApart z TI TO i1 i2 l1 l2) (st : ZSt z TI TO i1 i2 l1 l2 S xs ys i s.heap) (he : xs.size ≤ i ∨ ys.size ≤ i)
    (hQ : ∀ h', (∀ c o, c ∉ [z, TO, i1, i2] → s.heap.get? c = some o → h'.get? c = some o) → Q none { s with heap := h' }) : wpAny (model prog w) A (pyNext (.ref z)) Q E s := by
  obtain ⟨hTI, h1, h2, hl1, hl2, hz⟩ := st
  have hend : xs[i]? = none ∨ ys[i]? = none := he.imp (fun h => Array.getElem?_eq_none h) (fun h => Array.getElem?_eq_none h)
  rcases hz with ⟨hz, a, b, hTO⟩ | ⟨T, f, oT, hz, hT, r1, r2, r3, r4⟩
  · exact wpAny_pyNext_zip_end hh D hz hTI hTO h1 h2 hl1 hl2 hend fun h' hk => hQ h' fun c o hc e => hk c o (fun q => hc (by simp [q])) (fun q => hc (by simp [q])) (fun q => hc (by simp [q])) (fun q => hc (by simp [q])) e
  · exact wpAny_pyNext_zip_end_held hh D hz hT hTI h1 h2 hl1 hl2 hend fun h' hk => hQ h' fun c o hc e => hk c o (fun q => hc (by simp [q])) (fun q => hc (by simp [q])) (fun q => hc (by simp [q])) e
theorem loopZ {R : Result → Shared → Prop} {S lo : Addr} {n : Nat} (hh : A.handled = none) (D : ZipApart z TI TO i1 i2 l1 l2) (hS : ∀ b ∈ [z, TI, TO, i1, i2, l1, l2], b ≠ S) (hlo : ∀ b ∈ [z, TI, TO, i1, i2, l1, l2, S], b < lo) (hx : n ≤ xs.size) (hy : ys.size = n) (hn : n ≤ sizeLine) (res : Value) {h₁ : Heap}
    (hR : ∀ h' tk acc c as, (∀ b o, b ∉ [S, z, TO, i1, i2] → h₁.get? b = some o → h'.get? b = some o) → h'.get? S = some { cls := .type "list", dict := none, data := .seq acc c, slots := #[] } → as.length = n → ZMade xs ys lo h' as →
      acc.toList = as.map Value.ref → R (.ok (.ret res)) { s with heap := h', toks := tk }) :
    ∀ (k i : Nat) (h : Heap) (tk c : Nat) (acc : Array Value) (as : List Addr), n - i = k → i ≤ n → ZSt z TI TO i1 i2 l1 l2 S xs ys i h → (∀ b o, b ∉ [S, z, TO, i1, i2] → h₁.get? b = some o → h.get? b = some o) →
      h.get? S = some { cls := .type "list", dict := none, data := .seq acc c, slots := #[] } → acc.toList = as.map Value.ref → as.length = i → ZMade xs ys lo h as → lo ≤ h.objs.size →
      codeAny (model prog w) A (.builtin "list.extend.loop" ⟨[.ref S, .ref z, res], []⟩) R { s with heap := h, toks := tk } := by
  have hSn : S ∉ [z, TO, i1, i2] := fun q => by
    simp only [List.mem_cons, List.not_mem_nil, or_false] at q
    rcases q with q | q | q | q
    · exact hS z (by simp) q.symm
    · exact hS TO (by simp) q.symm
    · exact hS i1 (by simp) q.symm
    · exact hS i2 (by simp) q.symm
  have sub : ∀ b, b ∉ [S, z, TO, i1, i2] → b ∉ [z, TO, i1, i2] ∧ b ≠ S := fun b hb => ⟨fun q => hb (List.mem_cons_of_mem _ q), fun q => hb (by rw [q]; exact List.mem_cons_self)⟩
  have out : ∀ {h : Heap} {as : List Addr} {a : Addr}, ZMade xs ys lo h as → a ∈ as → a ∉ [z, TO, i1, i2] ∧ a ≠ S := fun {h as a} g ha => by
    have ab := g.above _ ha
    have key : ∀ b ∈ [z, TI, TO, i1, i2, l1, l2, S], a ≠ b := fun b hb q => absurd (hlo b hb) (by rw [← q]; exact Nat.not_lt.mpr ab)
    refine ⟨fun q => ?_, key S (by simp)⟩
    rcases List.mem_cons.mp q with q | q
    · exact key z (by simp) q
    · rcases List.mem_cons.mp q with q | q
      · exact key TO (by simp) q
      · rcases List.mem_cons.mp q with q | q
        · exact key i1 (by simp) q
        · exact key i2 (by simp) (List.mem_singleton.mp q)
  intro k
  induction k with
  | zero =>
    intro i h tk c acc as hk hi hst hkeep hSo hacc hal hG hIs
    refine codeAny_builtin PySem.F.entry_extend_loop ?_
    rw [Around.under_plainId PySem.F.plain_extend_loop _]
    show wpAny _ A.in1 (pyNext (.ref z) >>= _) _ _ _
    refine wpAny_bind (next_end (s := { s with heap := h, toks := tk }) (A := A.in1) hh D hst (.inr (by omega)) fun h' he => ?_)
    refine wpAny_pure (hR h' tk acc c as (fun b o hb e => he b o (sub b hb).1 (hkeep b o hb e)) (he S _ hSn hSo) (by omega) ⟨hG.rise, hG.above, fun a ha => ?_, fun j a hj => ?_⟩ hacc)
    · obtain ⟨j, hj⟩ := List.getElem?_of_mem ha
      obtain ⟨x, y, _, _, e3⟩ := hG.pairs j a hj
      exact Heap.lt_size (he a _ (out hG ha).1 e3)
    · obtain ⟨x, y, e1, e2, e3⟩ := hG.pairs j a hj
      exact ⟨x, y, e1, e2, he a _ (out hG (List.mem_of_getElem? hj)).1 e3⟩
  | succ k ih =>
    intro i h tk c acc as hk hi hst hkeep hSo hacc hal hG hIs
    have hlt : i < n := by omega
    have hsz : acc.size = i := by rw [← Array.length_toList, hacc, List.length_map, hal]
    have hall : ∀ b ∈ [z, TI, TO, i1, i2, l1, l2, S], b < h.objs.size := fun b hb => Nat.lt_of_lt_of_le (hlo b hb) hIs
    refine codeAny_builtin PySem.F.entry_extend_loop ?_
    rw [Around.under_plainId PySem.F.plain_extend_loop _]
    show wpAny _ A.in1 (pyNext (.ref z) >>= _) _ _ _
    refine wpAny_bind (next_item (s := { s with heap := h, toks := tk }) (S := S) D hall hst (by omega) (by omega) fun h' hst' ht hz hkp => ?_)
    dsimp only at ht hz hkp ⊢
    have hS' := hkp S _ hSn hSo
    have up : ∀ b o, b ≠ S → h'.get? b = some o → (h'.update S (Obj.mapSeq (·.push (Value.ref h.objs.size)))).get? b = some o := fun b o hb e => (Heap.get?_update_other _ _ (Ne.symm hb)).trans e
    have hSl : S < h.objs.size := hall S (by simp)
    have us : (h'.update S (Obj.mapSeq (·.push (Value.ref h.objs.size)))).objs.size = h.objs.size + 1 := by rw [Heap.size_update, hz]
    show wpAny _ A.in1 (updateSeq S (·.push (Value.ref h.objs.size)) >>= _) _ _ _
    refine wpAny_bind ?_
    refine wpAny_updateSeq hS' rfl (wpAny_pure ⟨plainId_quiet PySem.F.plain_extend_loop _, ih (i + 1) _ tk _ (acc.push (Value.ref h.objs.size)) (as ++ [h.objs.size]) (by omega) hlt (hst'.keep hS up)
      (fun b o hb e => up b o (sub b hb).2 (hkp b o (sub b hb).1 (hkeep b o hb e))) (Heap.get?_update_self _ hS' rfl) (by rw [Array.toList_push, hacc, List.map_append]; rfl) (by rw [List.length_append, hal]; rfl) ⟨?_, ?_, ?_, ?_⟩ (Nat.le_trans hIs (by rw [us]; exact Nat.le_succ _))⟩) (by rw [hsz]; omega) (by show (acc.push (Value.ref h.objs.size)).size ≤ sizeLine + 1; rw [Array.size_push, hsz]; omega)
    · refine List.pairwise_append.mpr ⟨hG.rise, List.pairwise_singleton _ _, fun a ha b hb => ?_⟩
      rw [List.mem_singleton.mp hb]
      exact hG.there a ha
    · intro a ha
      rcases List.mem_append.mp ha with ha | ha
      · exact hG.above a ha
      · rw [List.mem_singleton.mp ha]; exact hIs
    · intro a ha
      rw [us]
      rcases List.mem_append.mp ha with ha | ha
      · exact Nat.lt_succ_of_lt (hG.there a ha)
      · rw [List.mem_singleton.mp ha]; exact Nat.lt_succ_self _
    · intro j b hj
      rcases Nat.lt_trichotomy j as.length with h1 | h1 | h1
      · rw [List.getElem?_append_left h1] at hj
        obtain ⟨x, y, e1, e2, e3⟩ := hG.pairs j b hj
        obtain ⟨o1, o2⟩ := out hG (List.mem_of_getElem? hj)
        exact ⟨x, y, e1, e2, up b _ o2 (hkp b _ o1 e3)⟩
      · subst h1
        have hb : h.objs.size = b := by simpa using hj
        subst hb
        have hi2 : as.length < xs.size := by omega
        have hi3 : as.length < ys.size := by omega
        refine ⟨xs[as.length], ys[as.length], Array.getElem?_eq_getElem _, Array.getElem?_eq_getElem _, up _ _ (Nat.ne_of_gt hSl) ?_⟩
        subst hal
        exact ht
      · have hnone : (as ++ [h.objs.size])[j]? = none := List.getElem?_eq_none (by rw [List.length_append, List.length_singleton]; omega)
        rw [hnone] at hj; cases hj
theorem collectZ {R : List Value → Shared → Prop} {n : Nat} (hh : A.handled = none) (D : ZipApart z TI TO i1 i2 l1 l2) (hl : ∀ b ∈ [z, TI, TO, i1, i2, l1, l2], b < s.heap.objs.size) (hz : IsZip s.heap z TI TO .none) (hTI : IsPair s.heap TI (.ref i1) (.ref i2)) {a b : Value} (hTO : IsPair s.heap TO a b)
    (h1 : s.heap.IsListIter i1 l1 0) (h2 : s.heap.IsListIter i2 l2 0) (hl1 : s.heap.IsList l1 xs) (hl2 : s.heap.IsList l2 ys) (hx : n ≤ xs.size) (hy : ys.size = n) (hn : n ≤ sizeLine)
    (h : ∀ (h' : Heap) (tk : Nat) (as : List Addr), (∀ b o, b ∉ [z, TO, i1, i2] → s.heap.get? b = some o → h'.get? b = some o) → s.heap.objs.size < h'.objs.size → as.length = n → ZMade xs ys s.heap.objs.size h' as → R (as.map Value.ref) { s with heap := h', toks := tk }) :
    wpAny (model prog w) A (collect (.ref z)) R E s := by
  have hzl : z < s.heap.objs.size := hl z (by simp)
  unfold collect
  refine wpAny_bind (wpAny_runValue (codeAny_builtin entry_proto_collect' ?_))
  rw [Around.under_plainId PySem.F.plain_proto_collect _]
  show wpAny _ A.in1 (newList [] >>= fun l => again (.builtin "list.__iadd__" ⟨[l, .ref z], []⟩)) _ _ s
  refine wpAny_bind (wpAny_newObj_type ?_)
  refine wpAny_pure ⟨plainId_quiet PySem.F.plain_list_iadd _, codeAny_builtin entry_list_iadd' ?_⟩
  rw [Around.under_plainId PySem.F.plain_list_iadd _]
  have hS₁ : (s.heap.push { cls := .type "list", data := .seq ([] : List Value).toArray }).get? s.heap.objs.size = some { cls := .type "list", data := .seq #[] } := Heap.get?_push_size _ rfl
  have psz : (s.heap.push { cls := .type "list", data := .seq ([] : List Value).toArray }).objs.size = s.heap.objs.size + 1 := Heap.size_push ..
  have hz' : IsZip (s.heap.push { cls := .type "list", data := .seq ([] : List Value).toArray }) z TI TO .none := Heap.get?_push_of_some _ hz
  have old : ∀ b o, s.heap.get? b = some o → (s.heap.push { cls := .type "list", data := .seq ([] : List Value).toArray }).get? b = some o := fun b o e => Heap.get?_push_of_some _ e
  have st0 : ZSt z TI TO i1 i2 l1 l2 s.heap.objs.size xs ys 0 (s.heap.push { cls := .type "list", data := .seq ([] : List Value).toArray }) :=
    ⟨old _ _ hTI, h1.at fun o e => old _ o e, h2.at fun o e => old _ o e, hl1.at fun o e => old _ o e, hl2.at fun o e => old _ o e, .inl ⟨hz', a, b, old _ _ hTO⟩⟩
  have hS : ∀ b ∈ [z, TI, TO, i1, i2, l1, l2], b ≠ s.heap.objs.size := fun b hb => Nat.ne_of_lt (hl b hb)
  show wpAny _ A.in1 (Builtin.List.listExtendWith (.ref s.heap.objs.size) (.ref z) (.ref s.heap.objs.size)) _ _ _
  unfold Builtin.List.listExtendWith
  have hT : ∀ (h0 : Heap) (tk : Nat), IsZip h0 z TI TO .none → Shared.TypeIs { s with heap := h0, toks := tk } (.ref z) "zip" := fun h0 tk e => ⟨_, e, rfl⟩
  refine wpAny_bind (wpAny_typeOf (T := "zip") (hT _ _ hz') ?_)
  have q1 : Builtin.List.listSameRef (.ref s.heap.objs.size) (.ref z) = false := by simp [Builtin.List.listSameRef, Nat.ne_of_gt hzl]
  have q2 : (Value.type "zip" == Value.type "list") = false := by decide
  have q3 : (Value.type "zip" == Value.type "tuple") = false := by decide
  simp only [q1, q2, q3, Bool.or_false, Bool.false_eq_true, if_false]
  refine wpAny_bind (wpAny_pyIter_zip hz' ?_)
  refine wpAny_bind (wpAny_holding ?_)
  unfold Builtin.List.listLengthHint
  refine wpAny_bind (wpAny_specialOf (hT _ _ hz') zip_no_len ?_)
  show wpAny _ A.in1 (specialOf (Value.ref z) (Str.ofString "__length_hint__") >>= _) _ _ _
  refine wpAny_bind (wpAny_specialOf (hT _ _ hz') zip_no_hint ?_)
  refine wpAny_pure ?_
  show wpAny _ A.in1 (rule "list.extend.makes-room" >>= fun _ => Builtin.List.listTouch (.ref s.heap.objs.size) >>= fun _ =>
    again (.builtin "list.extend.loop" ⟨[.ref s.heap.objs.size, .ref z, .ref s.heap.objs.size], []⟩)) _ _ _
  refine wpAny_bind (wpAny_rule ?_)
  refine wpAny_bind ?_
  show wpAny _ A.in1 (updateSeq s.heap.objs.size (·.push .none) >>= fun _ => updateSeq s.heap.objs.size (·.pop)) _ _ _
  refine wpAny_bind (wpAny_updateSeq hS₁ rfl ?_)
  have hS₂ := Heap.get?_update_self (Obj.mapSeq (·.push Value.none)) hS₁ rfl
  refine wpAny_updateSeq (hz := by seq_fits) hS₂ rfl ?_
  have hS₃ := Heap.get?_update_self (Obj.mapSeq (·.pop)) hS₂ rfl
  have oth : ∀ b o, b ≠ s.heap.objs.size → (s.heap.push { cls := .type "list", data := .seq ([] : List Value).toArray }).get? b = some o →
      (((s.heap.push { cls := .type "list", data := .seq ([] : List Value).toArray }).update s.heap.objs.size (Obj.mapSeq (·.push Value.none))).update s.heap.objs.size (Obj.mapSeq (·.pop))).get? b = some o :=
    fun b o hb e => (Heap.get?_update_other _ _ (Ne.symm hb)).trans ((Heap.get?_update_other _ _ (Ne.symm hb)).trans e)
  refine wpAny_pure ⟨plainId_quiet PySem.F.plain_extend_loop _, loopZ (S := s.heap.objs.size) (lo := s.heap.objs.size + 1) (n := n) (h₁ := s.heap) hh D hS (fun b hb => ?_) hx hy hn (.ref s.heap.objs.size) (fun h' tk acc c as hk hS' hal hG hacc => ?_) n 0 _ _ _ _ [] (Nat.sub_zero _) (Nat.zero_le _) (st0.keep hS oth) (fun b o hb e => oth b o (fun q => hb (by rw [q]; exact List.mem_cons_self)) (old b o e)) hS₃ rfl rfl ⟨List.Pairwise.nil, (fun _ h => nomatch h), (fun _ h => nomatch h), (fun j a hj => by simp at hj)⟩ ?_⟩
  · simp only [List.mem_cons, List.not_mem_nil, or_false] at hb
    have := hl b
    simp only [List.mem_cons, List.not_mem_nil, or_false] at this
    rcases hb with q | q | q | q | q | q | q | q
    · exact Nat.lt_succ_of_lt (this (by simp [q]))
    · exact Nat.lt_succ_of_lt (this (by simp [q]))
    · exact Nat.lt_succ_of_lt (this (by simp [q]))
    · exact Nat.lt_succ_of_lt (this (by simp [q]))
    · exact Nat.lt_succ_of_lt (this (by simp [q]))
    · exact Nat.lt_succ_of_lt (this (by simp [q]))
    · exact Nat.lt_succ_of_lt (this (by simp [q]))
    · rw [q]; exact Nat.lt_succ_self _
  · show wpAny _ A (load s.heap.objs.size >>= _) _ _ _
    refine wpAny_bind (wpAny_load hS' ?_)
    refine wpAny_pure ?_
    show R acc.toList _
    rw [hacc]
    exact h h' tk as (fun b o hb e => hk b o (fun q => by
      rcases List.mem_cons.mp q with q | q
      · exact absurd (Heap.lt_size e) (by rw [q]; exact Nat.lt_irrefl _)
      · exact hb q) e) (Heap.lt_size hS') hal ⟨hG.rise, fun a ha => Nat.le_of_succ_le (hG.above a ha), hG.there, hG.pairs⟩
  · rw [Heap.size_update, Heap.size_update, psz]; exact Nat.le_refl _
end
end Wd.SZ

end

section
set_option maxRecDepth 100000
set_option maxHeartbeats 8000000
namespace Wd.SZ
open PySem PySem.Spec PyProof.Rows PySem.W PySem.Calls PyProof.V
theorem each_get {α β : Type} {R : α → β → Prop} : ∀ {l1 : List α} {l2 : List β}, l1.length = l2.length → (∀ (j : Nat) x y, l1[j]? = some x → l2[j]? = some y → R x y) → EachIs R l1 l2
  | [], [], _, _ => .nil
  | [], _ :: _, h, _ => by simp at h
  | _ :: _, [], h, _ => by simp at h
  | x :: l1, y :: l2, h, k => .cons (k 0 x y rfl rfl) (each_get (by simpa using h) fun j a b h1 h2 => k (j + 1) a b (by simpa using h1) (by simpa using h2))
theorem each_eq {β : Type} {f : β → Value} : ∀ {out : List Value} {l : List β}, EachIs (fun v b => v = f b) out l → out = l.map f
  | _, _, .nil => rfl
  | _, _, .cons h t => by rw [h, each_eq t]; rfl
section
variable {prog : Program} {w : World} {A : Around} {E : Value → Shared → Prop} {s : Shared} {z TI TO i1 i2 l1 l2 : Addr} {xs ys : Array Value}
def encP (b : Addr × Int × Str) : PyData := .tuple [.int b.2.1, .str b.2.2]
theorem alike_P (a b : Addr × Int × Str) : alike (encP a) (encP b) = true := by simp [encP, alike, alikeAll]
theorem sortZ {Q : Value → Shared → Prop} {ns : List Int} {ss : List Str} (hh : A.handled = none) (hu : A.units + 64 < cLine) (D : ZipApart z TI TO i1 i2 l1 l2) (hl : ∀ b ∈ [z, TI, TO, i1, i2, l1, l2], b < s.heap.objs.size) (hz : IsZip s.heap z TI TO .none) (hTI : IsPair s.heap TI (.ref i1) (.ref i2)) {a b : Value} (hTO : IsPair s.heap TO a b)
    (h1 : s.heap.IsListIter i1 l1 0) (h2 : s.heap.IsListIter i2 l2 0) (hl1 : s.heap.IsList l1 xs) (hl2 : s.heap.IsList l2 ys) (hx : xs.size = ns.length) (hy : ys.size = ss.length) (he : ss.length ≤ ns.length) (hn : ss.length ≤ 1000)
    (hX : ∀ (j : Nat) x, xs[j]? = some x → ∃ t, x = .int (ns.getD j 0) t) (hY : ∀ (j : Nat) y, ys[j]? = some y → ∃ t, y = .str (ss.getD j Str.empty) t)
    (h : ∀ (h' : Heap) (tk : Nat) (L : Addr) (ps : List (Addr × Int × Str)) (e : Nat), (∀ b o, b ∉ [z, TO, i1, i2] → s.heap.get? b = some o → h'.get? b = some o) → (ps.map (·.2)).Perm (ns.zip ss) → (ps.map (·.1)).Nodup →
      (∀ p ∈ ps, s.heap.objs.size ≤ p.1 ∧ p.1 ≠ L ∧ ∃ t t', IsPair h' p.1 (.int p.2.1 t) (.str p.2.2 t')) → s.heap.objs.size ≤ L → h'.get? L = some (seqObj "list" (ps.map fun p => Value.ref p.1).toArray e) → Q (.ref L) { s with heap := h', toks := tk }) :
    wpAny (model prog w) A (call (.builtin "sorted") [.ref z]) Q E s := by
  refine call_function_entry kind_sorted plain_sorted entry_sorted (args_sorted1 _) ?_
  unfold Builtin.«sorted»
  refine wpAny_bind (m := checkCount "sorted" 1 1 _) (wpAny_pure ?_)
  have sl : ss.length ≤ sizeLine := by rw [sizeLine_eq]; omega
  refine wpAny_bind (collectZ (A := A.in1) (n := ss.length) hh D hl hz hTI hTO h1 h2 hl1 hl2 (by omega) hy sl fun h' tk as hk hlt hal hG => ?_)
  refine wpAny_bind (wpAny_newList ?_ (by rw [List.length_map, hal]; exact sl))
  have pr : ∀ (j : Nat) (a : Addr), as[j]? = some a → ∃ t t', IsPair h' a (.int (ns.getD j 0) t) (.str (ss.getD j Str.empty) t') := fun j a hj => by
    obtain ⟨x, y, e1, e2, e3⟩ := hG.pairs j a hj
    obtain ⟨t, rfl⟩ := hX j x e1
    obtain ⟨t', rfl⟩ := hY j y e2
    exact ⟨t, t', e3⟩
  have lz : (ns.zip ss).length = ss.length := by rw [List.length_zip]; omega
  have lb : (as.zip (ns.zip ss)).length = ss.length := by rw [List.length_zip, hal, lz]; omega
  have zip_at : ∀ (j : Nat) (b : Addr × Int × Str), (as.zip (ns.zip ss))[j]? = some b → as[j]? = some b.1 ∧ b.2.1 = ns.getD j 0 ∧ b.2.2 = ss.getD j Str.empty := fun j b hb => by
    obtain ⟨q1, q2⟩ := List.getElem?_zip_eq_some.mp hb
    obtain ⟨q3, q4⟩ := List.getElem?_zip_eq_some.mp q2
    exact ⟨q1, by rw [List.getD_eq_getElem?_getD, q3]; rfl, by rw [List.getD_eq_getElem?_getD, q4]; rfl⟩
  have hlt := Nat.le_of_lt hlt
  have ho : (h'.push { cls := .type "list", data := .seq (as.map Value.ref).toArray }).get? h'.objs.size = some (seqObj "list" (as.map Value.ref).toArray 0) := Heap.get?_push_size _ rfl
  have up : ∀ b o, h'.get? b = some o → (h'.push { cls := .type "list", data := .seq (as.map Value.ref).toArray }).get? b = some o := fun b o e => Heap.get?_push_of_some _ e
  have R1 : EachIs (fun v (b : Addr × Int × Str) => v = Value.ref b.1) (as.map Value.ref) (as.zip (ns.zip ss)) := each_get (by rw [List.length_map, hal, lb]) fun j x y e1 e2 => by
    rw [List.getElem?_map, (zip_at j y e2).1] at e1
    exact (Option.some.inj e1).symm
  have R2 : EachIs (fun v (b : Addr × Int × Str) => ∃ as', Reads (h'.push { cls := .type "list", data := .seq (as.map Value.ref).toArray }) v (encP b) as' ∧ h'.objs.size ∉ as') (as.map Value.ref) (as.zip (ns.zip ss)) := each_get (by rw [List.length_map, hal, lb]) fun j x y e1 e2 => by
    obtain ⟨z1, z2, z3⟩ := zip_at j y e2
    rw [List.getElem?_map, z1] at e1
    obtain rfl : Value.ref y.1 = x := Option.some.inj e1
    obtain ⟨t, t', e3⟩ := pr j y.1 z1
    rw [← z2, ← z3] at e3
    exact ⟨_, .tuple (up _ _ e3) rfl rfl (.cons (.int _ _) (.cons (.str _ _) .nil)), by simp⟩
  have hal2 : AllAlike ((as.zip (ns.zip ss)).map encP) := fun d hd d' hd' => by
    obtain ⟨x, _, rfl⟩ := List.mem_map.mp hd
    obtain ⟨y, _, rfl⟩ := List.mem_map.mp hd'
    exact alike_P x y
  have hk2 : Sortable ((as.zip (ns.zip ss)).map encP) := .inl fun d hd => by
    obtain ⟨x, _, rfl⟩ := List.mem_map.mp hd
    exact ⟨_, _, rfl⟩
  have dep : ∀ b : Addr × Int × Str, (encP b).depth ≤ 2 := fun b => by simp [encP, PyData.depth, PyData.depthAll]
  refine wpAny_bind (wpAny_holding (wpAny_mono (list_sort_data (s := { s with heap := h'.push { cls := .type "list", data := .seq (as.map Value.ref).toArray }, toks := tk }) (A := A.in1) (Q := fun _ s' => Q (.ref h'.objs.size) s') ho R1 R2 hal2 hk2 (by rw [lb]; exact sl) (fun b _ => ?_) fun out o1 o2 => ?_) (fun _ s' x => ?_) fun _ _ e => e))
  · have := dep b
    show A.units + 1 + 1 + _ < cLine
    omega
  · have eo := each_eq o2
    obtain ⟨ee, he2⟩ := sortedHeap_at (vs := as.map Value.ref) (out := out.toArray) ho
    have pm : ((as.zip (ns.zip ss)).mergeSort (dataLe false encP)).Perm (as.zip (ns.zip ss)) := List.mergeSort_perm _ _
    have asd : as.Nodup := List.Pairwise.imp (fun h => Nat.ne_of_lt h) hG.rise
    refine h _ tk h'.objs.size ((as.zip (ns.zip ss)).mergeSort (dataLe false encP)) ee (fun b o hb e => ?_) ?_ ?_ (fun p hp => ?_) hlt (by rw [← eo]; exact he2)
    · have e' := hk b o hb e
      exact (sortedHeap_old (Nat.ne_of_lt (Heap.lt_size e')) (Heap.lt_size (up _ _ e'))).trans (up _ _ e')
    · have := pm.map (·.2)
      rw [List.map_snd_zip (by rw [lz, hal]; exact Nat.le_refl _)] at this
      exact this
    · have := pm.map (·.1)
      rw [List.map_fst_zip (by rw [lz, hal]; exact Nat.le_refl _)] at this
      exact this.nodup_iff.mpr asd
    · have hp' := pm.mem_iff.mp hp
      obtain ⟨j, hj⟩ := List.getElem?_of_mem hp'
      obtain ⟨z1, z2, z3⟩ := zip_at j p hj
      obtain ⟨t, t', e3⟩ := pr j p.1 z1
      rw [← z2, ← z3] at e3
      have pm1 := List.mem_of_getElem? z1
      exact ⟨hG.above _ pm1, Nat.ne_of_lt (hG.there _ pm1), t, t', (sortedHeap_old (Nat.ne_of_lt (hG.there _ pm1)) (Heap.lt_size (up _ _ e3))).trans (up _ _ e3)⟩
  · exact wpAny_pure ⟨_, rfl, x⟩
end
end Wd.SZ

end

section
set_option maxRecDepth 100000
set_option maxHeartbeats 8000000
namespace Wd
open PySem PySem.Spec PyProof.Rows L2
theorem vals_int {ns : List Int} {us : List Value} (r : Vals (ns.map V.int) us) {j : Nat} {x : Value} (h : us[j]? = some x) : ∃ t, x = .int (ns.getD j 0) t := by
  have l := r.length
  rw [List.length_map] at l
  have lt : j < ns.length := by have := get_lt h; omega
  have e : (ns.map V.int)[j]? = some (V.int (ns.getD j 0)) := by rw [List.getElem?_map, List.getElem?_eq_getElem lt, List.getD_eq_getElem?_getD, List.getElem?_eq_getElem lt]; rfl
  obtain ⟨u, hu, ru⟩ := r.get e
  rw [h] at hu
  cases hu
  exact ru
theorem vals_str {ss : List Str} {us : List Value} (r : Vals (ss.map V.str) us) {j : Nat} {x : Value} (h : us[j]? = some x) : ∃ t, x = .str (ss.getD j Str.empty) t := by
  have l := r.length
  rw [List.length_map] at l
  have lt : j < ss.length := by have := get_lt h; omega
  have e : (ss.map V.str)[j]? = some (V.str (ss.getD j Str.empty)) := by rw [List.getElem?_map, List.getElem?_eq_getElem lt, List.getD_eq_getElem?_getD, List.getElem?_eq_getElem lt]; rfl
  obtain ⟨u, hu, ru⟩ := r.get e
  rw [h] at hu
  cases hu
  exact ru
def tSortZip (K : PySem.W.Frag) (t : TA) : TE := fun σ H Q => t σ H fun vs H2 => ∃ (a b : Addr) (ns : List Int) (ss : List Str), vs = [V.ref a, V.ref b] ∧ SqL K H2 a (ns.map V.int) ∧ SqL K H2 b (ss.map V.str) ∧ ss.length ≤ ns.length ∧ ss.length ≤ 1000 ∧
  ∀ (H3 : Hp) (L : Addr) (ps : List (Addr × Int × Str)), Same H2 H3 → (ps.map (·.2)).Perm (ns.zip ss) → H2 L = none → H3 L = some (.lst (ps.map fun p => V.ref p.1)) → (∀ p ∈ ps, H2 p.1 = none ∧ H3 p.1 = some (.tup [.int p.2.1, .str p.2.2])) → Q (.ref L) H3
theorem pe_sortZip {X : Cx} {e e2 : Expr} {ta : TA} {p p2 pos pos2 : Pos} (hc : X.calm = true) (hu : X.A.units + 64 < cLine) (hg : Gl X "sorted") (hm : X.mg "sorted" = none) (hg2 : Gl X "zip") (hm2 : X.mg "zip" = none) (ha : PA X [e, e2] ta)
    (hs : starEach [e, e2] X.env = (false, eval e X.env) :: starEach [e2] X.env) (hpl : (backTo pos2 (starEach [e2] X.env)).any (·.1) = false) :
    PE X (.Call (.Name "sorted" p) [.Call (.Name "zip" p2) [e, e2] [] pos2] [] pos) (tSortZip X.K ta) := by
  refine ⟨fun pins s σ H Q I h => ?_⟩
  refine Call_ (ld_blt I hg hm (by first | exact PyProof.Rows.boot_sorted | exact PySem.boot_sorted | decide +kernel) (PyProof.Rows.callWith_builtin1 (PyProof.Rows.args_cons ?_ rfl) rfl rfl))
  refine Call_ (ld_blt I hg2 hm2 PyProof.Rows.boot_zip (PyProof.Rows.callWith_type1 (thn (ha.run pos2 pins s σ H _ I h) fun us s1 ⟨vs, H1, I1, r1, q1⟩ => ?_) hs hpl))
  obtain ⟨a, b, ns, ss, ex, hqx, hqy, hle, h1000, q⟩ := q1
  subst ex
  cases r1 with
  | cons r rr =>
    cases rr with
    | cons r' rr =>
      cases rr
      cases r
      cases r'
      obtain ⟨its, rv, p1, _⟩ := I1.list hqx
      obtain ⟨its2, rv2, p3, _⟩ := I1.list hqy
      have la : a < s1.heap.objs.size := p1.lt
      have lb : b < s1.heap.objs.size := p3.lt
      have e1 := rv.length
      have e2 := rv2.length
      rw [List.length_map] at e1 e2
      refine PySem.call_zip_2 p1.isList p3.isList fun h' hz hTI hTO h1 h2 hsz hk => ?_
      refine PyProof.Rows.args_nil (SZ.sortZ (s := { s1 with heap := h' }) (ns := ns) (ss := ss) (I1.ok.hd hc) hu (PySem.W.ktu_apart s1.heap.objs.size a b la lb) (fun c hc => ?_) hz hTI hTO h1 h2 (p1.isList.at fun o e => hk _ o e) (p3.isList.at fun o e => hk _ o e) (by simp; omega) (by simp; omega) hle h1000 (fun j x hx => vals_int rv (by simpa using hx)) (fun j x hx => vals_str rv2 (by simpa using hx))
        fun h'' tk L ps ee kept pm nd tups hL hLo => ?_)
      · show c < h'.objs.size
        have hsz : h'.objs.size = s1.heap.objs.size + 5 := hsz
        simp only [List.mem_cons, List.not_mem_nil, or_false] at hc
        rw [hsz]
        rcases hc with hc | hc | hc | hc | hc | hc | hc <;> rw [hc]
        all_goals first | exact Nat.add_lt_add_left (by decide) _ | exact Nat.lt_add_of_pos_right (by decide) | exact Nat.lt_add_right _ la | exact Nat.lt_add_right _ lb
      · have kb : ∀ b o, s1.heap.get? b = some o → h''.get? b = some o := fun b o e => by
          have lt := Heap.lt_size e
          refine kept b o (fun q => ?_) (hk b o e)
          simp only [List.mem_cons, List.not_mem_nil, or_false] at q
          rcases q with q | q | q | q <;> rw [q] at lt
          all_goals first | exact Nat.lt_irrefl _ lt | exact Nat.not_lt.mpr (Nat.le_add_right _ _) lt
        have hL : s1.heap.objs.size ≤ L := by
          have h1 : h'.objs.size ≤ L := hL
          have h2 : h'.objs.size = s1.heap.objs.size + 5 := hsz
          exact Nat.le_trans (by rw [h2]; exact Nat.le_add_right _ _) h1
        have I2 : Inv X pins σ H1 { s1 with heap := h'', toks := tk } := I1.kept kb
        have nL : H1 L = none := I1.hok.fresh hL
        have I3 : Inv X pins σ (upd H1 L (.lst (ps.map fun p => V.ref p.1))) { s1 with heap := h'', toks := tk } := I2.take (h' := h'') (t' := tk) (fun b ob _ e => e) (I1.fpOk hL nL) (by
          refine ⟨?_, ps.map fun p => Value.ref p.1, ee, ?_, hLo⟩
          · have l1 := pm.length_eq
            rw [List.length_map, List.length_zip] at l1
            rw [List.length_map, sizeLine_eq]; omega
          · have : ∀ qs : List (Addr × Int × Str), Vals (qs.map fun p => V.ref p.1) (qs.map fun p => Value.ref p.1) := fun qs => by
              induction qs with
              | nil => exact .nil
              | cons q qs ih => exact .cons rfl ih
            exact this ps)
        have sz : h'.objs.size = s1.heap.objs.size + 5 := hsz
        obtain ⟨H4, I4, g4, q4⟩ := DX.takeT (P := fun a vs => ∃ p ∈ ps, p.1 = a ∧ vs = [V.int p.2.1, V.str p.2.2]) I1 (ps.map (·.1)) (upd H1 L (.lst (ps.map fun p => V.ref p.1))) I3 nd fun c hc => by
          obtain ⟨p, hp, rfl⟩ := List.mem_map.mp hc
          obtain ⟨t1, t2, t, t', t3⟩ := tups p hp
          have t1 : h'.objs.size ≤ p.1 := t1
          have lo : s1.heap.objs.size ≤ p.1 := Nat.le_trans (by rw [show h'.objs.size = s1.heap.objs.size + 5 from hsz]; exact Nat.le_add_right _ _) t1
          refine ⟨lo, by rw [upd_ne t2]; exact I1.hok.fresh lo, _, ⟨p, hp, rfl, rfl⟩, fun H2 => ⟨by show 2 ≤ sizeLine; decide, [.int p.2.1 t, .str p.2.2 t'], .cons ⟨t, rfl⟩ (.cons ⟨t', rfl⟩ .nil), ⟨_, t3, rfl, _, rfl⟩⟩⟩
        refine ⟨.ref L, H4, I4, rfl, q H4 L ps (fun b o e => g4 b o (by rw [upd_ne (ne_of_none e nL)]; exact e)) pm nL (g4 _ _ upd_same) fun p hp => ?_⟩
        obtain ⟨t1, t2, _⟩ := tups p hp
        have t1 : h'.objs.size ≤ p.1 := t1
        obtain ⟨vs, ⟨p', hp', e1, rfl⟩, e2⟩ := q4 p.1 (List.mem_map_of_mem hp)
        have : p' = p := by
          obtain ⟨i, hi⟩ := List.getElem?_of_mem hp
          obtain ⟨j, hj⟩ := List.getElem?_of_mem hp'
          have l1 : i < (ps.map (·.1)).length := by rw [List.length_map]; exact get_lt hi
          have ei : (ps.map (·.1))[i]? = (ps.map (·.1))[j]? := by rw [List.getElem?_map, List.getElem?_map, hi, hj]; exact congrArg some e1.symm
          have := (List.getElem?_inj l1 nd).mp ei
          subst this
          rw [hi] at hj
          cases hj
          rfl
        subst this
        exact ⟨I1.hok.fresh (Nat.le_trans (by rw [show h'.objs.size = s1.heap.objs.size + 5 from hsz]; exact Nat.le_add_right _ _) t1), e2⟩
end Wd

end

section
set_option maxRecDepth 100000
set_option maxHeartbeats 4000000
namespace Wd
open PySem PySem.Spec PyProof.Rows L2
/-! ### xs[::k], k one or minus one -/
def stepV (k : Int) (vs : List V) : List V := if k = 1 then vs else vs.reverse
theorem pick_one (items : Array Value) : slicePick items none none (some 1) = items := by
  have e : slicePick items none none (some 1) = slicePick items none none none := rfl
  rw [e, PySem.W.kmk_pick_nat (a := 0) (b := items.size) items (by unfold sliceBounds; simp)]
  rw [Nat.sub_zero, List.drop_zero, List.take_of_length_le (by simp)]
def tStep (K : PySem.W.Frag) (te tk : TE) : TE := fun σ H Q => te σ H fun x H1 => tPart tk σ H1 fun o H2 => ∃ a xs k, x = .ref a ∧ o = some k ∧ (k = 1 ∨ k = -1) ∧ SqL K H2 a xs ∧ ∀ p, H2 p = none → Q (.ref p) (upd H2 p (.lst (stepV k xs)))
theorem pe_step {X : Cx} {e ek : Expr} {te tk : TE} {p3 pos : Pos} (he : PE X e te) (hk : PE X ek tk) : PE X (.Subscript e (.Slice none none (some ek) p3) pos) (tStep X.K te tk) := by
  refine ⟨fun pins s σ H Q I h => ?_⟩
  refine Subscript_ (thn (he.run pins s σ H _ I h) fun v s1 ⟨x, H1, I1, r1, q1⟩ => ?_)
  have hst := po_some hk
  refine wpAny_Slice (thn (po_none.run pins s1 σ H1 (fun o H2 => o = none ∧ H2 = H1) I1 ⟨rfl, rfl⟩) fun vl s2 ⟨l, H2, I2, pl, el, e2⟩ => ?_)
  subst el e2
  refine thn (po_none.run pins s2 σ H2 (fun o H3 => o = none ∧ H3 = H2) I2 ⟨rfl, rfl⟩) fun vu s3 ⟨u, H3, I3, pu, eu, e3⟩ => ?_
  subst eu e3
  refine thn (hst.run pins s3 σ H3 (fun o H4 => ∃ a xs k, x = .ref a ∧ o = some k ∧ (k = 1 ∨ k = -1) ∧ SqL X.K H4 a xs ∧ ∀ p, H4 p = none → Q (.ref p) (upd H4 p (.lst (stepV k xs)))) I3 q1) fun vs s4 ⟨o, H4, I4, ps, a, xs, k, ex, eo, hk1, hx, q⟩ => ?_
  subst ex eo
  cases r1
  have I5 : Inv X pins σ H4 { s4 with heap := s4.heap.push { cls := .type "slice", data := .fields #[vl, vu, vs] } } := I4.kept (t' := s4.toks) fun b ob q => Heap.get?_push_of_some _ q
  obtain ⟨its, r, ht, hz⟩ := I5.list hx
  have hlen := r.length
  show wpAny (model X.prog X.w) X.A (subscriptTail e (.Slice none none (some ek) p3) (.ref a) (.ref s4.heap.objs.size)) (EP X pins σ Q) X.xe { s4 with heap := s4.heap.push { cls := .type "slice", data := .fields #[vl, vu, vs] } }
  refine tail_any (ops := [.ref a, .ref s4.heap.objs.size]) ht.isList.typeIs (PySem.slot_list_getitem.lookup) ?_ (by with_unfolding_all rfl)
  refine wpAny_getItem_list_slice ht.isList (Heap.IsSliceOf.new _ vl vu vs) pl pu ps (by rcases hk1 with rfl | rfl <;> decide) ?_ (by rw [List.size_toArray]; omega)
  rcases hk1 with rfl | rfl
  · rw [pick_one]
    refine ⟨.ref _, _, I5.laid (t' := s4.toks) (o := .lst (stepV 1 xs)) (fun b ob q => Heap.get?_push_of_some _ q) (Nat.le_refl _) ?_, rfl, q _ (I5.hok.fresh (Nat.le_refl _))⟩
    exact ⟨hz, its, 0, r, Heap.get?_push_size _ rfl⟩
  · rw [PySem.W.krv_pick]
    refine ⟨.ref _, _, I5.laid (t' := s4.toks) (o := .lst (stepV (-1) xs)) (fun b ob q => Heap.get?_push_of_some _ q) (Nat.le_refl _) ?_, rfl, q _ (I5.hok.fresh (Nat.le_refl _))⟩
    exact ⟨by show (List.reverse xs).length ≤ _; rw [List.length_reverse]; exact hz, _, 0, r.reverse, Heap.get?_push_size _ rfl⟩
section
variable {u : Uni} {N Vn Gl' : List Str} {sc : Scope} {k : Nat} {X : Cx} {Z : Zn} {Γ : List Ty} {a b c e e2 elt tg iter : Expr} {P : Pr} {pos pos2 p p2 : Pos} {x : Str}
/-- items that are told by some unknown list of data -/
abbrev someL {α : Type} (φ : List α → Prop) (A : α → Pr) : Pr := Pr.ex fun xs : List α => Pr.and (φ xs) (isL (xs.map A))
theorem all_rev {S : Hp} : ∀ {Ps : List Pr} {vs : List V}, All S Ps vs → All S Ps.reverse vs.reverse
  | [], _, .nil => .nil
  | P :: Ps, _, .cons h t => by
    rw [List.reverse_cons, List.reverse_cons]
    exact (all_rev t).append (.cons h .nil)
theorem j_step {α : Type} {φ : List α → Prop} {A : α → Pr} {n : Int} {p3 : Pos} (g : Good u N sc k X) (ha : J X Z Γ a (someL φ A)) (hb : J X Z Γ b (isI n)) (hn : n = 1 ∨ n = -1) (hr : ∀ xs, φ xs → φ xs.reverse) : J X Z Γ (.Subscript a (.Slice none none (some b) p3) pos) (someL φ A) := by
  obtain ⟨rfl, -, -, -, -, -, -⟩ := g
  refine j_of (pe_step peW peW) fun own σ H g Q q => ha own σ H g _ fun v H1 s1 p1 => hb own σ H1 (g.grow s1) _ fun w H2 s2 p2 => ?_
  obtain ⟨xs, hx, ad, vs, rfl, h1, h2⟩ := (someL φ A).mono (hid_grow s2) p1
  refine ⟨n, p2, ad, vs, n, rfl, rfl, hn, SqL.of (hid_some h1).2, fun p hp => ?_⟩
  have s3 : Same H2 (upd H2 p (.lst (stepV n vs))) := same_new hp
  have pn : p ∉ own := fun z => g.dom' p z (L2.Same.free (s1.trans s2) hp)
  refine q _ _ ((s1.trans s2).trans s3) ?_
  have hv : hid own (upd H2 p (.lst (stepV n vs))) p = some (.lst (stepV n vs)) := (hid_out pn).trans upd_same
  have h3 := h2.mono (hid_grow (own := own) s3)
  rcases hn with rfl | rfl
  · exact ⟨xs, hx, p, _, rfl, hv, h3⟩
  · exact ⟨xs.reverse, hr xs hx, p, _, rfl, hv, by rw [List.map_reverse]; exact all_rev h3⟩
/-! ### sorted(zip(a, b)) -/
theorem all_len {S : Hp} {Ps : List Pr} {vs : List V} (h : All S Ps vs) : Ps.length = vs.length := h.length
theorem j_sortZip {ns : List Int} {φ : List Str → Prop} {j j2 : Nat} (g : Good u N sc k X) (nm : Nm sc Vn Gl') (f1 : Free u "sorted") (f2 : Free u "zip") (hG : At Gl' j "sorted") (hG2 : At Gl' j2 "zip") (ha : J X Z Γ e (isL (ns.map isI))) (hb : J X Z Γ e2 (someL φ isS)) (hφ : ∀ ss, φ ss → ss.length ≤ ns.length ∧ ss.length ≤ 1000)
    (hs : starEach [e, e2] X.env = (false, eval e X.env) :: starEach [e2] X.env) (hs2 : starEach [e2] X.env = (false, eval e2 X.env) :: starEach [] X.env) (hpl : (backTo pos2 (starEach [e2] X.env)).any (·.1) = false) :
    J X Z Γ (.Call (.Name "sorted" p) [.Call (.Name "zip" p2) [e, e2] [] pos2] [] pos) (someL (fun ms : List (Int × Str) => ∃ ss, φ ss ∧ ms.Perm (ns.zip ss)) fun m => isTt [isI m.1, isS m.2]) := by
  have hg1 := okGl_gl (nm.gl hG)
  have hg2 := okGl_gl (nm.gl hG2)
  obtain ⟨t, a1, a2⟩ := ja_cons ha (ja_cons hb ja_nil hs2) hs
  obtain ⟨rfl, rfl, rfl, hc, hr, -, -⟩ := g
  refine j_of (pe_sortZip hc (by have := hr.un; omega) hg1.1 f1.ex hg2.1 f2.ex a1 hs hpl) fun own σ H g Q q => a2 own σ H g _ fun vs H1 s1 p1 => ?_
  obtain ⟨v, w, rfl, ⟨ad, us, rfl, x1, x2⟩, ss, hss, ad2, us2, rfl, y1, y2⟩ := all2 p1
  obtain ⟨l1, l2⟩ := hφ ss hss
  rw [all_ints x2] at x1
  rw [all_strs y2] at y1
  refine ⟨ad, ad2, ns, ss, rfl, SqL.of (hid_some x1).2, SqL.of (hid_some y1).2, l1, l2, fun H3 L ps s3 pm nL hL hp => ?_⟩
  have fr : ∀ c, H1 c = none → c ∉ own := fun c hc z => g.dom' c z (L2.Same.free s1 hc)
  refine q _ H3 (s1.trans s3) ⟨ps.map (·.2), ⟨ss, hss, pm⟩, L, _, rfl, (hid_out (fr L nL)).trans hL, ?_⟩
  rw [List.map_map]
  have : ∀ qs : List (Addr × Int × Str), (∀ p ∈ qs, p ∈ ps) → All (hid own H3) (qs.map ((fun m => isTt [isI m.1, isS m.2]) ∘ fun x => x.2)) (qs.map fun p => V.ref p.1) := fun qs => by
    induction qs with
    | nil => exact fun _ => .nil
    | cons z qs ih =>
      intro h
      obtain ⟨n1, n2⟩ := hp z (h z List.mem_cons_self)
      exact .cons ⟨z.1, [.int z.2.1, .str z.2.2], rfl, (hid_out (fr _ n1)).trans n2, .cons rfl (.cons rfl .nil)⟩ (ih fun p hp => h p (List.mem_cons_of_mem _ hp))
  exact this ps fun _ h => h
/-! ### a comprehension over such a list -/
theorem j_mapx {α : Type} (g : Good u N sc k X) {scope : Scope} {φ : List α → Prop} {A B : α → Pr} (ow : List (Str × Nat)) (he : J X Z Γ iter (someL φ A)) (ok : blkC N sc scope ow = true) (hl : ∀ xs, φ xs → xs.length ≤ 1000)
    (l : α → List (Nat × Pr)) (hsub : ∀ x, ∀ q ∈ l x, q.1 ∈ ow.map (·.2))
    (hs : ∀ x G X', Good u N (relS sc scope) k X' → JG X' { Z with G := G } (wipeG Γ (ow.map (·.2))) tg (A x) (l x) ∧ J X' { Z with G := G } (setAll (wipeG Γ (ow.map (·.2))) (l x)) elt (B x))
    (hfs : ∀ x, foldedSetIterable iter X.env x = pure x := by intro _; rfl) : J X Z Γ (.ListComp elt [⟨tg, iter, [], 0⟩] scope pos) (someL φ B) := by
  have good : ∀ X', BlkX X scope X' → Good u N (relS sc scope) k X' := fun X' b => b.good g
  obtain ⟨rfl, rfl, rfl, hc, hr, hx, nd⟩ := g
  let gt : TG := fun v σ H Q => ∀ X', BlkX X scope X' → tWG X' tg v σ H Q
  let te : TE := fun σ H Q => ∀ X', BlkX X scope X' → tW X' elt σ H Q
  have hgt : ∀ (s : Shared) (H : Hp) (C : Addr) (cl : List (Str × Addr)) (fp : List Addr), PG (X.blk s H scope (compEnvC scope cl C X.env) fp) tg gt := fun s H C cl fp => ⟨fun pins s' σ H' v w Q I r h => h _ ⟨s, H, C, cl, fp, rfl⟩ pins s' w I r⟩
  have hht : ∀ (s : Shared) (H : Hp) (C : Addr) (cl : List (Str × Addr)) (fp : List Addr), PTs (X.blk s H scope (compEnvC scope cl C X.env) fp) [] tYes := fun s H C cl fp => pts_nil
  have hte : ∀ (s : Shared) (H : Hp) (C : Addr) (cl : List (Str × Addr)) (fp : List Addr), PE (X.blk s H scope (compEnvC scope cl C X.env) fp) elt te := fun s H C cl fp => ⟨fun pins s' σ H' Q I h => h _ ⟨s, H, C, cl, fp, rfl⟩ pins s' I⟩
  refine j_of (pe_lc (own := ow) (g := gt) (tt := tYes) (te := te) hc nd (pi_list peW) (blkOk_by ok) hgt hht hte hfs) fun own σ H g Q q => he own σ H g _ fun v H1 s1 p1 => ?_
  obtain ⟨xs, hxs, ad, vs0, rfl, h1, h2⟩ := p1
  have hl := hl xs hxs
  refine ⟨ad, rfl, ⟨vs0, SqL.of (hid_some h1).2⟩, ?_⟩
  intro Dd hD
  have hD0 : H Dd = none := L2.Same.free s1 hD
  have g1 := g.grow s1
  have hnew : ∀ {H'}, Same H1 H' → H' Dd = some (.lst []) → StO { Z with G := hid own H1 } (Dd :: own) (wipeG Γ (ow.map (·.2))) (wipe σ (ow.map (·.2))) H' := fun s h => (g1.more.wiped _).owned hD s h (fun vs z => nomatch z)
  have z0 : Z.H0 Dd = none := g.fresh hD0
  have ns : ∀ (i : Nat) (b : Bool) (C : Ct), (wipeG Γ (ow.map (·.2)))[i]? = some (.own b C) → (wipe σ (ow.map (·.2))).getD i none ≠ some (.ref Dd) := fun i b C e z => by
    obtain ⟨p', o', f1, k1, _⟩ := (g1.wiped (ow.map (·.2))).at_ i _ e
    rw [z] at f1
    cases f1
    exact (g1.dom Dd k1).1 hD
  refine ⟨fun i m H' => m = xs.length - i ∧ i ≤ xs.length ∧ Same H H' ∧ StO { Z with G := hid own H1 } (Dd :: own) (wipeG Γ (ow.map (·.2))) (wipe σ (ow.map (·.2))) H' ∧ ∃ acc, H' Dd = some (.lst acc) ∧ All (hid (Dd :: own) H') ((xs.take i).map B) acc,
    ⟨xs.length, by simp, Nat.zero_le _, s1.trans (same_new hD), hnew (same_new hD) upd_same, [], upd_same, .nil⟩, ?_⟩
  have len : vs0.length = xs.length := by rw [← h2.length, List.length_map]
  rintro i m H' ⟨rfl, hi, sH, g', acc, hacc, hall⟩
  have hL : hid (Dd :: own) H' ad = some (.lst vs0) := g'.gh _ _ h1
  by_cases hlt : i < xs.length
  · have hx : xs[i]? = some xs[i] := by rw [List.getElem?_eq_getElem hlt]
    obtain ⟨v1, e1, e2⟩ := h2.get (i := i) (P := A xs[i]) (by rw [List.getElem?_map, hx]; rfl)
    have h3 : SqL X.K H' ad vs0 := SqL.of (hid_some hL).2
    refine .inr ⟨⟨vs0, v1, h3, e1⟩, fun H2 => Same H H2 ∧ StO { Z with G := hid own H1 } (Dd :: own) (wipeG Γ (ow.map (·.2))) (wipe σ (ow.map (·.2))) H2 ∧ ∃ acc, H2 Dd = some (.lst acc) ∧ All (hid (Dd :: own) H2) ((xs.take (i + 1)).map B) acc,
      fun H2 ⟨y1, y2, y3⟩ => ⟨xs.length - (i + 1), by omega, rfl, hlt, y1, y2, y3⟩, fun v H2 y => ?_⟩
    obtain ⟨rfl, y⟩ := y
    obtain rfl : v1 = v := Option.some.inj (e1.symm.trans (y vs0 h3))
    intro X' bX
    obtain ⟨jg, je⟩ := hs xs[i] (hid own H1) X' (good X' bX)
    refine jg (Dd :: own) _ H2 v1 g' ((A xs[i]).mono g'.gh e2) _ fun σ3 g3 w3 => ?_
    refine ⟨(w3 _ (hsub xs[i])).trans (wipe_wipe fun _ h => h), ?_⟩
    refine iteT (B := True) fun X'' bX'' => ?_
    refine (hs xs[i] (hid own H1) X'' (good X'' bX'')).2 (Dd :: own) σ3 H2 g3 _ fun y H4 s4 p4 => ?_
    have h4 : H4 Dd = some (.lst acc) := s4 _ _ hacc
    have hh : hid (Dd :: own) (upd H4 Dd (.lst (acc ++ [y]))) = hid (Dd :: own) H4 := hid_upd List.mem_cons_self
    have hlen : acc.length < sizeLine := by
      have := hall.length
      rw [List.length_map, List.length_take] at this
      exact small1000 (by omega)
    refine ⟨acc, h4, hlen, fun c o e => ?_, (g'.grow s4).writeX (fun vs z => nomatch z) List.mem_cons_self z0 ns, acc ++ [y], upd_same, ?_⟩
    · rw [upd_ne (ne_of_none e hD0)]
      exact s4 _ _ (sH _ _ e)
    · rw [hh, List.take_succ, hx]
      show All _ ((xs.take i ++ [xs[i]]).map B) _
      rw [List.map_append]
      exact (hall.mono (hid_grow s4)).append (.cons p4 .nil)
  · obtain rfl : i = xs.length := by omega
    refine .inl ⟨⟨vs0, SqL.of (hid_some hL).2, by rw [len]; exact Nat.le_refl _⟩, ?_⟩
    rw [List.take_length] at hall
    have dn : Dd ∉ own := fun z => g.dom' Dd z hD0
    exact q _ H' sH ⟨xs, hxs, Dd, acc, rfl, (hid_out dn).trans hacc, hall.mono (hid_mono (fun _ h => List.mem_cons_of_mem _ h) (.refl _))⟩
end
end Wd

end

section
set_option maxRecDepth 100000
set_option maxHeartbeats 4000000
namespace Wd
open PySem PySem.Spec L2
/-! ### a list of lists that grow, and a list of numbers beside it -/
abbrev KidL : Type := List (Option (List Nat))
def kV1 : Option Addr → V | none => .non | some q => .ref q
def nV (n : Nat) : V := .int (n : Int)
def isK1 : Option (List Nat) → Pr
  | none => isN
  | some ks => isL (ks.map fun n : Nat => isI (n : Int))
theorem all_of_get {S : Hp} : ∀ {Ps : List Pr} {vs : List V}, Ps.length = vs.length → (∀ (i : Nat) (P : Pr) (v : V), Ps[i]? = some P → vs[i]? = some v → P.p S v) → All S Ps vs
  | [], [], _, _ => .nil
  | P :: Ps, v :: vs, l, h => .cons (h 0 P v rfl rfl) (all_of_get (by simpa using l) fun i P' v' a b => h (i + 1) P' v' (by simpa using a) (by simpa using b))
theorem all_nats {S : Hp} (ns : List Nat) : All S (ns.map fun n : Nat => isI (n : Int)) (ns.map nV) := by
  induction ns with
  | nil => exact .nil
  | cons n ns ih => exact .cons rfl ih
theorem nats_all {S : Hp} : ∀ {ns : List Nat} {vs : List V}, All S (ns.map fun n : Nat => isI (n : Int)) vs → vs = ns.map nV
  | [], _, .nil => rfl
  | n :: ns, _, .cons h t => by rw [show _ = V.int n from h, nats_all t]; rfl
structure KdH (H0 : Hp) (kids : KidL) (dp : List Nat) (own : List Addr) (H : Hp) (D D2 : Addr) (qs : List (Option Addr)) : Prop where
  hD : H D = some (.lst (qs.map kV1))
  hD2 : H D2 = some (.lst (dp.map nV))
  len : qs.length = kids.length
  no : ∀ j : Nat, qs[j]? = some none → kids[j]? = some none
  yes : ∀ (j : Nat) q, qs[j]? = some (some q) → ∃ ks, kids[j]? = some (some ks) ∧ H q = some (.lst (ks.map nV))
  inj : ∀ (j j' : Nat) q, qs[j]? = some (some q) → qs[j']? = some (some q) → j = j'
  ne : D ≠ D2
  neq : ∀ (j : Nat) q, qs[j]? = some (some q) → q ≠ D ∧ q ≠ D2 ∧ q ∈ own ∧ H0 q = none
  oD : D ∈ own ∧ H0 D = none
  oD2 : D2 ∈ own ∧ H0 D2 = none
def KdA (H0 : Hp) (ik id : Nat) (kids : KidL) (dp : List Nat) (own : List Addr) (σ : L2.St) (H : Hp) : Prop := ∃ D D2 qs, σ.getD ik none = some (.ref D) ∧ σ.getD id none = some (.ref D2) ∧ KdH H0 kids dp own H D D2 qs
section
variable {H0 : Hp} {kids : KidL} {dp : List Nat} {own own' : List Addr} {σ σ' : L2.St} {H H' : Hp} {D D2 : Addr} {qs : List (Option Addr)} {ik id : Nat}
theorem KdH.grow (h : KdH H0 kids dp own H D D2 qs) (s : Same H H') : KdH H0 kids dp own H' D D2 qs :=
  ⟨s _ _ h.hD, s _ _ h.hD2, h.len, h.no, fun j q e => let ⟨ks, a, b⟩ := h.yes j q e; ⟨ks, a, s _ _ b⟩, h.inj, h.ne, h.neq, h.oD, h.oD2⟩
theorem KdA.grow (h : KdA H0 ik id kids dp own σ H) (s : Same H H') : KdA H0 ik id kids dp own σ H' :=
  let ⟨D, D2, qs, a, b, c⟩ := h; ⟨D, D2, qs, a, b, c.grow s⟩
theorem KdA.same (h : KdA H0 ik id kids dp own σ H) (h1 : σ'.getD ik none = σ.getD ik none) (h2 : σ'.getD id none = σ.getD id none) : KdA H0 ik id kids dp own σ' H :=
  let ⟨D, D2, qs, a, b, c⟩ := h; ⟨D, D2, qs, h1.trans a, h2.trans b, c⟩
theorem KdH.owns (h : KdH H0 kids dp own H D D2 qs) (s : ∀ a ∈ own, a ∈ own') : KdH H0 kids dp own' H D D2 qs :=
  ⟨h.hD, h.hD2, h.len, h.no, h.yes, h.inj, h.ne, fun j q e => let ⟨a, b, c, d⟩ := h.neq j q e; ⟨a, b, s _ c, d⟩, ⟨s _ h.oD.1, h.oD.2⟩, ⟨s _ h.oD2.1, h.oD2.2⟩⟩
/-- an inner list grows -/
theorem KdH.app (h : KdH H0 kids dp own H D D2 qs) {o q : Nat} {ks : List Nat} {n : Nat} (hq : qs[o]? = some (some q)) (hk : kids[o]? = some (some ks)) : KdH H0 (kids.set o (some (ks ++ [n]))) dp own (upd H q (.lst (ks.map nV ++ [nV n]))) D D2 qs := by
  obtain ⟨n1, n2, n3, n4⟩ := h.neq o q hq
  refine ⟨by rw [upd_ne (fun z => n1 z.symm)]; exact h.hD, by rw [upd_ne (fun z => n2 z.symm)]; exact h.hD2, by rw [List.length_set]; exact h.len, fun j e => ?_, fun j q' e => ?_, h.inj, h.ne, h.neq, h.oD, h.oD2⟩
  · rw [List.getElem?_set_ne (fun z => by subst z; rw [e] at hq; cases hq)]
    exact h.no j e
  · by_cases z : o = j
    · subst z
      rw [hq] at e
      cases e
      refine ⟨ks ++ [n], ?_, by rw [upd_same, List.map_append]; rfl⟩
      rw [List.getElem?_set_self (get_lt hk)]
    · obtain ⟨ks', a, b⟩ := h.yes j q' e
      refine ⟨ks', by rw [List.getElem?_set_ne z]; exact a, ?_⟩
      rw [upd_ne (fun y => z (h.inj o j q hq (by rw [e, y])))]
      exact b
theorem KdH.dapp (h : KdH H0 kids dp own H D D2 qs) {n : Nat} : KdH H0 kids (dp ++ [n]) own (upd H D2 (.lst (dp.map nV ++ [nV n]))) D D2 qs :=
  ⟨by rw [upd_ne h.ne]; exact h.hD, by rw [upd_same, List.map_append]; rfl, h.len, h.no, fun j q e => let ⟨ks, a, b⟩ := h.yes j q e; ⟨ks, a, by rw [upd_ne (h.neq j q e).2.1]; exact b⟩, h.inj, h.ne, h.neq, h.oD, h.oD2⟩
theorem get_snoc {α : Type} {l : List α} {x y : α} {j : Nat} (h : (l ++ [x])[j]? = some y) : l[j]? = some y ∨ (j = l.length ∧ y = x) := by
  by_cases z : j < l.length
  · rw [List.getElem?_append_left z] at h; exact .inl h
  · rw [List.getElem?_append_right (by omega)] at h
    have := get_lt h
    rw [List.length_singleton] at this
    have e : j = l.length := by omega
    subst e
    rw [Nat.sub_self] at h
    cases h
    exact .inr ⟨rfl, rfl⟩
theorem KdH.kapp (h : KdH H0 kids dp own H D D2 qs) (o : Option Addr) (ho : ∀ q, o = some q → q ∈ own ∧ H0 q = none ∧ H q = some (.lst []) ∧ q ≠ D ∧ q ≠ D2 ∧ ∀ j : Nat, qs[j]? ≠ some (some q)) :
    KdH H0 (kids ++ [o.map fun _ => []]) dp own (upd H D (.lst (qs.map kV1 ++ [kV1 o]))) D D2 (qs ++ [o]) := by
  have up : ∀ (j : Nat) q, (qs ++ [o])[j]? = some (some q) → q ≠ D := fun j q e => by
    rcases get_snoc e with e | ⟨_, e⟩
    · exact (h.neq j q e).1
    · exact (ho q e.symm).2.2.2.1
  refine ⟨by rw [upd_same, List.map_append]; rfl, by rw [upd_ne h.ne.symm]; exact h.hD2, by simp [h.len], fun j e => ?_, fun j q e => ?_, fun j j' q e e' => ?_, h.ne, fun j q e => ?_, h.oD, h.oD2⟩
  · rcases get_snoc e with e | ⟨e1, e2⟩
    · have := h.no j e
      rw [List.getElem?_append_left (get_lt this)]; exact this
    · subst e1 e2
      rw [h.len, List.getElem?_append_right (Nat.le_refl _), Nat.sub_self]; rfl
  · rw [upd_ne (up j q e)]
    rcases get_snoc e with e | ⟨e1, e2⟩
    · obtain ⟨ks, a, b⟩ := h.yes j q e
      exact ⟨ks, by rw [List.getElem?_append_left (get_lt a)]; exact a, b⟩
    · subst e1 e2
      exact ⟨[], by rw [h.len, List.getElem?_append_right (Nat.le_refl _), Nat.sub_self]; rfl, (ho q rfl).2.2.1⟩
  · rcases get_snoc e with e | ⟨e1, e2⟩
    · rcases get_snoc e' with e' | ⟨e3, e4⟩
      · exact h.inj j j' q e e'
      · exact absurd e ((ho q e4.symm).2.2.2.2.2 j)
    · rcases get_snoc e' with e' | ⟨e3, e4⟩
      · exact absurd e' ((ho q e2.symm).2.2.2.2.2 j')
      · rw [e1, e3]
  · rcases get_snoc e with e | ⟨e1, e2⟩
    · exact h.neq j q e
    · obtain ⟨a, b, c, d, f, _⟩ := ho q e2.symm
      exact ⟨d, f, a, b⟩
end
/-! ### contexts without owned slots -/
def NoOwn (Γ : List Ty) : Prop := ∀ (i : Nat) b C, Γ[i]? ≠ some (.own b C)
def noOwn : List Ty → Bool
  | [] => true
  | .own _ _ :: _ => false
  | _ :: r => noOwn r
theorem noOwn_ok : ∀ {Γ : List Ty}, noOwn Γ = true → NoOwn Γ
  | [], _, i, b, C, z => by simp at z
  | .any :: r, h, 0, b, C, z => by simp at z
  | .val _ :: r, h, 0, b, C, z => by simp at z
  | .any :: r, h, i + 1, b, C, z => noOwn_ok (Γ := r) h i b C (by simpa using z)
  | .val _ :: r, h, i + 1, b, C, z => noOwn_ok (Γ := r) h i b C (by simpa using z)
theorem NoOwn.set {Γ : List Ty} (h : NoOwn Γ) {i : Nat} {P : Pr} : NoOwn (Γ.set i (.val P)) := fun j b C z => by
  rcases getE_set z with ⟨_, e⟩ | ⟨_, e⟩
  · cases e
  · exact h j b C e
section
variable {Z : Zn} {own : List Addr} {Γ : List Ty} {σ : L2.St} {H H' : Hp}
theorem StO.shrink (g : StO Z own Γ σ H) (no : NoOwn Γ) (A : List Addr) (hA : ∀ a ∈ A, Z.H0 a = none) : StO Z (own.filter fun a => decide (a ∉ A)) Γ σ H := by
  have hm : Same (hid own H) (hid (own.filter fun a => decide (a ∉ A)) H) := hid_mono (fun a ha => (List.mem_filter.mp ha).1) (.refl H)
  refine ⟨fun a ha => g.dom a (List.mem_filter.mp ha).1, fun a ha => List.mem_filter.mpr ⟨g.old a ha, decide_eq_true fun z => g.dO a ha (hA a z)⟩, fun a ha => g.new a (List.mem_filter.mp ha).1, g.keep, fun j T e => ?_, fun a b la lb A B q ha hb x1 x2 => absurd ha (no a la A), g.len, g.gh.trans hm, g.mo, g.dO⟩
  have q := g.at_ j T e
  cases T with
  | any => trivial
  | val P => obtain ⟨v, e, q⟩ := q; exact ⟨v, e, P.mono hm q⟩
  | own b C => exact absurd e (no j b C)
theorem set_same {α : Type} : ∀ {l : List α} {i : Nat} {x : α}, l[i]? = some x → l.set i x = l
  | [], _, _, h => by simp at h
  | y :: l, 0, x, h => by simp at h; subst h; rfl
  | y :: l, i + 1, x, h => by rw [List.set_cons_succ, set_same (by simpa using h)]
theorem StO.retype (g : StO Z own Γ σ H) {i : Nat} {P : Pr} {v : V} (hv : σ.getD i none = some v) (h : P.p (hid own H) v) : StO Z own (Γ.set i (.val P)) σ H := by
  have e := getD_of hv
  have := g.set (i := i) (by rw [g.len]; exact get_lt e) h
  rw [set_same e] at this
  exact this
theorem StO.ownedL (g : StO Z own Γ σ H) {ps : List Addr} (s : Same H H') (hp : ∀ p ∈ ps, H p = none ∧ Live (H' p)) : StO Z (ps ++ own) Γ σ H' := by
  have hm : Same (hid own H) (hid (ps ++ own) H') := fun a u e => by
    obtain ⟨h1, h2⟩ := hid_some e
    rw [hid_out (fun z => (List.mem_append.mp z).elim (fun y => by rw [(hp a y).1] at h2; cases h2) h1)]
    exact s a u h2
  refine ⟨fun a ha => ?_, fun a ha => List.mem_append_right _ (g.old a ha), fun a ha => ?_, fun a u h1 h2 => s a u (g.keep a u h1 h2), fun i T e => ?_, g.uniq, g.len, g.gh.trans hm, g.mo, g.dO⟩
  · rcases List.mem_append.mp ha with ha | ha
    · exact (hp a ha).2
    · exact (g.grow s).dom a ha
  · rcases List.mem_append.mp ha with ha | ha
    · exact .inr (g.fresh (hp a ha).1)
    · exact g.new a ha
  · have q := g.at_ i T e
    cases T with
    | any => trivial
    | val P => obtain ⟨v, e, q⟩ := q; exact ⟨v, e, P.mono hm q⟩
    | own b C => obtain ⟨p', o', e, h1, h2, h2', h3, h4⟩ := q; exact ⟨p', o', e, List.mem_append_right _ h1, h2, h2', s _ _ h3, C.mono hm h4⟩
end
/-- all of it seen as values -/
def kView (Γ : List Ty) (ik id : Nat) (kids : KidL) (dp : List Nat) : List Ty := (Γ.set ik (.val (isL (kids.map isK1)))).set id (.val (isL (dp.map fun n : Nat => isI (n : Int))))
theorem KdA.view {Z : Zn} {own : List Addr} {Γ : List Ty} {σ : L2.St} {H : Hp} {ik id : Nat} {kids : KidL} {dp : List Nat} (g : StO Z own Γ σ H) (no : NoOwn Γ) (h : KdA Z.H0 ik id kids dp own σ H) : ∃ own', (∀ a ∈ own', a ∈ own) ∧ StO Z own' (kView Γ ik id kids dp) σ H := by
  obtain ⟨D, D2, qs, e1, e2, k⟩ := h
  have hA : ∀ a ∈ D :: D2 :: qs.filterMap (fun o => o), Z.H0 a = none := fun a ha => by
    rcases List.mem_cons.mp ha with rfl | ha
    · exact k.oD.2
    rcases List.mem_cons.mp ha with rfl | ha
    · exact k.oD2.2
    obtain ⟨o, ho, rfl⟩ := List.mem_filterMap.mp ha
    obtain ⟨j, hj⟩ := List.getElem?_of_mem ho
    exact (k.neq j a hj).2.2.2
  have g1 := g.shrink no _ hA
  have out : ∀ a ∈ D :: D2 :: qs.filterMap (fun o => o), a ∉ own.filter fun a => decide (a ∉ D :: D2 :: qs.filterMap (fun o => o)) := fun a ha z => of_decide_eq_true (List.mem_filter.mp z).2 ha
  refine ⟨_, fun a ha => (List.mem_filter.mp ha).1, (g1.retype e1 ?_).retype e2 ?_⟩
  · refine ⟨D, qs.map kV1, rfl, (hid_out (out D List.mem_cons_self)).trans k.hD, all_of_get (by rw [List.length_map, List.length_map, k.len]) fun i P v hP hv => ?_⟩
    rw [List.getElem?_map] at hP hv
    cases hq : qs[i]? with
    | none => rw [hq] at hv; cases hv
    | some o =>
      rw [hq] at hv
      cases hv
      cases o with
      | none =>
        rw [k.no i hq] at hP
        cases hP
        exact rfl
      | some q =>
        obtain ⟨ks, a, b⟩ := k.yes i q hq
        rw [a] at hP
        cases hP
        exact ⟨q, _, rfl, (hid_out (out q (List.mem_cons_of_mem _ (List.mem_cons_of_mem _ (List.mem_filterMap.mpr ⟨some q, List.mem_of_getElem? hq, rfl⟩))))).trans b, all_nats ks⟩
  · exact ⟨D2, dp.map nV, rfl, (hid_out (out D2 (List.mem_cons_of_mem _ List.mem_cons_self))).trans k.hD2, all_nats dp⟩
end Wd

end

section
set_option maxRecDepth 100000
set_option maxHeartbeats 4000000
namespace Wd
open PySem PySem.Spec L2
/-- a new empty list -/
def isNewL (G : Hp) : Pr := ⟨fun S v => ∃ q, v = .ref q ∧ G q = none ∧ S q = some (.lst []), fun s ⟨q, e, h, k⟩ => ⟨q, e, h, s _ _ k⟩⟩
structure TrK (X : Cx) (Z : Zn) (Γ : List Ty) (ik id : Nat) (kids : KidL) (dp : List Nat) (sts : List Stmt) (D : Ends) : Prop where
  run : ∀ own σ H, StO Z own Γ σ H → KdA Z.H0 ik id kids dp own σ H → tWs X sts D σ H
section
variable {u : Uni} {N : List Str} {sc : Scope} {k : Nat} {X : Cx} {Z : Zn} {Γ : List Ty} {a b c e elt tg iter : Expr} {es : List Expr} {P P1 P2 : Pr} {Ps : List Pr} {pos pos2 p p2 apos : Pos} {x y : Str} {D : Ends} {rest A B : List Stmt} {ik id : Nat} {kids : KidL} {dp : List Nat}
theorem trk_of {sts : List Stmt} {t : TS} (h : PSs X sts t) (ev : ∀ own σ H, StO Z own Γ σ H → KdA Z.H0 ik id kids dp own σ H → t D σ H) : TrK X Z Γ ik id kids dp sts D := ⟨fun own σ H g kd pins s I => h.run pins s σ H D I (ev own σ H g kd)⟩
theorem j_fr : J X Z Γ (.List [] pos) (isNewL Z.G) := ⟨fun own σ H g Q q => (jn_lst (Ps := []) ja_nil (by simp)) own σ H g _ fun p o H' s hp ho hc => q _ H' s (by
  obtain ⟨vs, rfl, hv⟩ := hc
  cases hv
  refine ⟨p, rfl, ?_, (hid_out fun z => (g.dom p z).1 hp).trans ho⟩
  cases z : Z.G p with
  | none => rfl
  | some o =>
    have := (hid_some (g.gh p o z)).2
    rw [hp] at this; cases this)⟩
theorem StO.setAny {own : List Addr} {σ : L2.St} {H : Hp} (g : StO Z own Γ σ H) (i : Nat) (ov : Option V) : StO Z own (Γ.set i .any) (σ.set i ov) H := by
  refine ⟨g.dom, g.old, g.new, g.keep, fun j T e => ?_, fun a b l l' C C' p ha hb e1 e2 => ?_, by rw [List.length_set, List.length_set]; exact g.len, g.gh, g.mo, g.dO⟩
  · rw [getD_set]
    rcases getE_set e with ⟨_, q⟩ | ⟨n, q⟩
    · subst q; trivial
    · rw [if_neg (fun z => n z.1)]
      exact g.at_ j T q
  · rcases getE_set ha with ⟨_, q⟩ | ⟨na, q⟩
    · cases q
    · rcases getE_set hb with ⟨_, q'⟩ | ⟨nb, q'⟩
      · cases q'
      · rw [getD_set, if_neg (fun z => na z.1)] at e1
        rw [getD_set, if_neg (fun z => nb z.1)] at e2
        exact g.uniq a b l l' C C' p q q' e1 e2
/-! ### the statements -/
theorem trk_view (no : NoOwn Γ) {sts : List Stmt} (h : Tr X Z (kView Γ ik id kids dp) sts D) : TrK X Z Γ ik id kids dp sts D := ⟨fun own σ H g kd => by
  obtain ⟨own', _, g'⟩ := kd.view g no
  exact h own' σ H g'⟩
theorem trk_if {d : Bool} (hc : JT X Z Γ c d) (h1 : d = true → TrK X Z Γ ik id kids dp A (behind X rest D)) (h2 : d = false → TrK X Z Γ ik id kids dp rest D) : TrK X Z Γ ik id kids dp (.If c A [] pos :: rest) D := by
  cases d with
  | true => exact trk_of (pss_cons (ps_if (b := []) (u := tNever) ptW pssW pss_never) pssW) fun own σ H g kd => hc own σ H g _ fun H1 s1 => iteT ((h1 rfl).run own σ H1 (g.grow s1) (kd.grow s1))
  | false => exact trk_of (pss_cons (ps_if (a := A) (t := tNever) ptW pss_never pss_nil) pssW) fun own σ H g kd => hc own σ H g _ fun H1 s1 => iteF ((h2 rfl).run own σ H1 (g.grow s1) (kd.grow s1))
theorem trk_break (h : TrK X Z Γ ik id kids dp B D) {D' : Ends} (hD : D'.bk = tWs X B D) : TrK X Z Γ ik id kids dp (.Break pos :: rest) D' :=
  trk_of (pss_cons ps_break pss_never) fun own σ H g kd => by
    show D'.bk σ H
    rw [hD]
    exact h.run own σ H g kd
theorem trk_sub {Γ' : List Ty} (s : Sub Γ Γ') {sts : List Stmt} (h : TrK X Z Γ' ik id kids dp sts D) : TrK X Z Γ ik id kids dp sts D := ⟨fun own σ H g kd => h.run own σ H (g.sub s) kd⟩
theorem trk_less {G : Hp} {sts : List Stmt} (h : TrK X Z Γ ik id kids dp sts D) (hG : Same Z.G G) : TrK X { Z with G := G } Γ ik id kids dp sts D := ⟨fun own σ H g kd => h.run own σ H (g.less (G := Z.G) hG) kd⟩
/-- a plain value is stored -/
theorem trk_set (g : Good u N sc k X) (hf : ∀ x, X.fn x = true) (i : Nat) (hN : N[i]? = some x) (hl : okLoc sc x = true) (no : NoOwn Γ) (hik : i ≠ ik) (hid : i ≠ id) (he : J X Z (kView Γ ik id kids dp) e P) (hP : Plain P) (h : TrK X Z (Γ.set i (.val P)) ik id kids dp rest D)
    (hi : Nat.blt i Γ.length = true) (hs : swapsWith e (some (.Name x p)) pos.line X.env = pure false) : TrK X Z Γ ik id kids dp (.Assign [.Name x p] e pos :: rest) D := by
  obtain ⟨l1, l2⟩ := g.hf hf hl
  obtain ⟨rfl, rfl, rfl, -, -, -, nd⟩ := g
  refine trk_of (pss_cons (ps_set (i := i) nd hN l1 peW hs l2) pssW) fun own σ H g kd => ?_
  obtain ⟨own', sub, g'⟩ := kd.view g no
  refine he own' σ H g' _ fun v H1 s1 p1 => ?_
  exact h.run own _ H1 ((g.grow s1).set (by rw [Nat.blt_eq] at hi; exact hi) (hP _ _ _ p1)) ((kd.grow s1).same (by rw [getD_set, if_neg (fun z => hik z.1)]) (by rw [getD_set, if_neg (fun z => hid z.1)]))
/-- numbers, by a comprehension on one line with the name -/
theorem trk_setC (g : Good u N sc k X) {i : Nat} {ns : List Nat} {gs : List Comprehension} {scope : Scope} (no : NoOwn Γ) (hik : i ≠ ik) (hid : i ≠ id) (he : JLC X Z (kView Γ ik id kids dp) (.ListComp elt gs scope pos) (ownL (ns.map fun n : Nat => isI (n : Int)))) (hN : N[i]? = some x) (hl : okOwn sc x = true) (hk : sc.kind = .function) (hi : Nat.blt i Γ.length = true) {px spos : Pos}
    (hp : (px.line == pos.line) = true) (ha : (scope.names.any fun (n, k) => n == x && (k == .local || k == .cell)) = false) (h : TrK X Z (Γ.set i (.val (isL (ns.map fun n : Nat => isI (n : Int))))) ik id kids dp rest D) : TrK X Z Γ ik id kids dp (.Assign [.Name x px] (.ListComp elt gs scope pos) spos :: rest) D := by
  obtain ⟨rfl, rfl, rfl, -, -, -, nd⟩ := g
  obtain ⟨t, h1, h2, h3⟩ := he.ex
  refine trk_of (pss_cons (h2 i x px spos hN (okOwn_loc hl) (sw_true hk (okOwn_loc hl) hp ha)) pssW) fun own σ H g kd => ?_
  obtain ⟨own', sub, g'⟩ := kd.view g no
  refine h3 own' σ H g' _ fun p o H1 s1 hp ho hc => ?_
  obtain ⟨vs, rfl, hv⟩ := hc
  have e := nats_all hv
  subst e
  refine h.run own _ H1 ((g.grow s1).set (by rw [Nat.blt_eq] at hi; exact hi) ⟨p, _, rfl, (hid_out fun z => (g.dom p z).1 hp).trans ho, all_nats ns⟩) ((kd.grow s1).same (by rw [getD_set, if_neg (fun z => hik z.1)]) (by rw [getD_set, if_neg (fun z => hid z.1)]))
/-- kids[o].append(n) -/
theorem trk_kidapp (g : Good u N sc k X) (hN : N[ik]? = some x) (hv : okVar sc x = true) (no : NoOwn Γ) {o n : Nat} {ks : List Nat} (hk : kids[o]? = some (some ks)) (hlen : ks.length ≤ 1000) (hb : J X Z Γ b (isI (o : Int))) (he : J X Z Γ e (isI (n : Int))) (hs0 : PlainIx b)
    (h : TrK X Z Γ ik id (kids.set o (some (ks ++ [n]))) dp rest D) {xpos : Pos}
    (hbase : attributeBase (.Subscript (.Name x p) b xpos) "append" X.env (eval (.Subscript (.Name x p) b xpos) X.env) = eval (.Subscript (.Name x p) b xpos) X.env)
    (hfew : ((backTo pos (starEach [e] X.env)).all (fun x => !x.1) && (backToKw pos (keywordEach [] X.env)).all (fun x => x.1.isSome) && decide ([e].length + ([] : List Keyword).length + (if ([] : List Keyword).isEmpty then 0 else 1) < 30)) = true)
    (hline : (apos.endLine == pos.line) = true) (hs : starEach [e] X.env = (false, eval e X.env) :: starEach [] X.env) {pos2 : Pos} (hsw : swapsWith (.Call (.Attribute (.Subscript (.Name x p) b xpos) "append" apos) [e] [] pos) none pos2.line X.env = pure false) :
    TrK X Z Γ ik id kids dp (.Expr (.Call (.Attribute (.Subscript (.Name x p) b xpos) "append" apos) [e] [] pos) pos2 :: rest) D := by
  obtain ⟨rfl, rfl, rfl, -, -, -, -⟩ := g
  obtain ⟨h1, h2, h3⟩ := okVar_vis hv
  refine trk_of (pss_cons (ps_expr (pe_bm PySem.F.plainAttrs_list PySem.F.slot_list_append PySem.F.type_list_append mt_append (pe_ix ix_list (pe_var hN h1 h2 h3) peW hs0) (pa_cons peW pa_nil hs) hbase hfew hline hs rfl) hsw) pssW) fun own σ H g ⟨D1, D2, qs, e1, e2, kd⟩ => ?_
  refine ⟨.ref D1, getD_of e1, hb own σ H g _ fun v2 H2 s2 p2 => ?_⟩
  have hq : ∃ q, qs[o]? = some (some q) := by
    have lt : o < qs.length := by rw [kd.len]; exact get_lt hk
    cases z : qs[o]? with
    | none => rw [List.getElem?_eq_getElem lt] at z; cases z
    | some w =>
      cases w with
      | none => rw [kd.no o z] at hk; cases hk
      | some q => exact ⟨q, rfl⟩
  obtain ⟨q, hq⟩ := hq
  obtain ⟨ks', a1, a2⟩ := kd.yes o q hq
  rw [hk] at a1
  cases a1
  refine ⟨D1, qs.map kV1, (o : Int), .ref q, rfl, p2, SqL.of (s2 _ _ kd.hD), atI_nat (by rw [List.getElem?_map, hq]; rfl), ?_⟩
  refine ⟨.inl ⟨rfl, ks.map nV, SqL.of (s2 _ _ a2)⟩, he own σ H2 (g.grow s2) _ fun v H3 s3 p3 => ?_⟩
  have s23 := s2.trans s3
  obtain ⟨n1, n2, n3, n4⟩ := kd.neq o q hq
  refine ⟨q, ks.map nV, v, rfl, rfl, s23 _ _ a2, small1000 (by rw [List.length_map]; exact hlen), ?_⟩
  rw [show v = nV n from p3]
  exact h.run own σ _ ((g.grow s23).writeX (fun vs z => nomatch z) n3 n4 (fun i b C e _ => no i b C e)) ⟨D1, D2, qs, e1, e2, (kd.grow s23).app hq hk⟩
/-- depths.append(n) -/
theorem trk_dapp (g : Good u N sc k X) (hN : N[id]? = some x) (hv : okVar sc x = true) (no : NoOwn Γ) {n : Nat} (hlen : dp.length ≤ 1000) (he : J X Z (kView Γ ik id kids dp) e (isI (n : Int)))
    (h : TrK X Z Γ ik id kids (dp ++ [n]) rest D)
    (hbase : attributeBase (.Name x p) "append" X.env (eval (.Name x p) X.env) = eval (.Name x p) X.env)
    (hfew : ((backTo pos (starEach [e] X.env)).all (fun x => !x.1) && (backToKw pos (keywordEach [] X.env)).all (fun x => x.1.isSome) && decide ([e].length + ([] : List Keyword).length + (if ([] : List Keyword).isEmpty then 0 else 1) < 30)) = true)
    (hline : (apos.endLine == pos.line) = true) (hs : starEach [e] X.env = (false, eval e X.env) :: starEach [] X.env) {pos2 : Pos} (hsw : swapsWith (.Call (.Attribute (.Name x p) "append" apos) [e] [] pos) none pos2.line X.env = pure false) :
    TrK X Z Γ ik id kids dp (.Expr (.Call (.Attribute (.Name x p) "append" apos) [e] [] pos) pos2 :: rest) D := by
  obtain ⟨rfl, rfl, rfl, -, -, -, -⟩ := g
  obtain ⟨h1, h2, h3⟩ := okVar_vis hv
  refine trk_of (pss_cons (ps_expr (pe_bm PySem.F.plainAttrs_list PySem.F.slot_list_append PySem.F.type_list_append mt_append (pe_var hN h1 h2 h3) (pa_cons peW pa_nil hs) hbase hfew hline hs rfl) hsw) pssW) fun own σ H g kA => ?_
  obtain ⟨own', sub, g'⟩ := kA.view g no
  obtain ⟨D1, D2, qs, e1, e2, kd⟩ := kA
  refine ⟨.ref D2, getD_of e2, .inl ⟨rfl, dp.map nV, SqL.of kd.hD2⟩, he own' σ H g' _ fun v H1 s1 p1 => ?_⟩
  refine ⟨D2, dp.map nV, v, rfl, rfl, s1 _ _ kd.hD2, small1000 (by rw [List.length_map]; exact hlen), ?_⟩
  rw [show v = nV n from p1]
  exact h.run own σ _ ((g.grow s1).writeX (fun vs z => nomatch z) kd.oD2.1 kd.oD2.2 (fun i b C e _ => no i b C e)) ⟨D1, D2, qs, e1, e2, (kd.grow s1).dapp⟩
/-- kids.append(..): none, or a new empty list -/
theorem trk_kapp (g : Good u N sc k X) (hN : N[ik]? = some x) (hv : okVar sc x = true) (no : NoOwn Γ) {d : Bool} (hlen : kids.length ≤ 1000) (he : ∀ G, J X { Z with G := G } (kView Γ ik id kids dp) e (if d = true then isN else isNewL G))
    (h : TrK X Z Γ ik id (kids ++ [if d = true then none else some []]) dp rest D)
    (hbase : attributeBase (.Name x p) "append" X.env (eval (.Name x p) X.env) = eval (.Name x p) X.env)
    (hfew : ((backTo pos (starEach [e] X.env)).all (fun x => !x.1) && (backToKw pos (keywordEach [] X.env)).all (fun x => x.1.isSome) && decide ([e].length + ([] : List Keyword).length + (if ([] : List Keyword).isEmpty then 0 else 1) < 30)) = true)
    (hline : (apos.endLine == pos.line) = true) (hs : starEach [e] X.env = (false, eval e X.env) :: starEach [] X.env) {pos2 : Pos} (hsw : swapsWith (.Call (.Attribute (.Name x p) "append" apos) [e] [] pos) none pos2.line X.env = pure false) :
    TrK X Z Γ ik id kids dp (.Expr (.Call (.Attribute (.Name x p) "append" apos) [e] [] pos) pos2 :: rest) D := by
  obtain ⟨rfl, rfl, rfl, -, -, -, -⟩ := g
  obtain ⟨h1, h2, h3⟩ := okVar_vis hv
  refine trk_of (pss_cons (ps_expr (pe_bm PySem.F.plainAttrs_list PySem.F.slot_list_append PySem.F.type_list_append mt_append (pe_var hN h1 h2 h3) (pa_cons peW pa_nil hs) hbase hfew hline hs rfl) hsw) pssW) fun own σ H g kA => ?_
  obtain ⟨own', sub, g'⟩ := kA.view g no
  obtain ⟨D1, D2, qs, e1, e2, kd⟩ := kA
  refine ⟨.ref D1, getD_of e1, .inl ⟨rfl, qs.map kV1, SqL.of kd.hD⟩, he (hid own' H) own' σ H g'.more _ fun v H1 s1 p1 => ?_⟩
  refine ⟨D1, qs.map kV1, v, rfl, rfl, s1 _ _ kd.hD, small1000 (by rw [List.length_map, kd.len]; exact hlen), ?_⟩
  have kd1 := kd.grow s1
  cases d with
  | true =>
    rw [show v = kV1 none from p1]
    exact h.run own σ _ ((g.grow s1).writeX (fun vs z => nomatch z) kd.oD.1 kd.oD.2 (fun i b C e _ => no i b C e)) ⟨D1, D2, qs ++ [none], e1, e2, kd1.kapp none (fun q z => nomatch z)⟩
  | false =>
    obtain ⟨q, rfl, q1, q2⟩ := p1
    obtain ⟨q3, q4⟩ := hid_some q2
    have fr : H q = none := by
      cases z : H q with
      | none => rfl
      | some o => rw [hid_out q3, z] at q1; cases q1
    have qn : q ∉ own := fun z => (g.dom q z).1 fr
    have g2 : StO Z (q :: own) Γ σ H1 := g.owned fr s1 q4 (fun vs z => nomatch z)
    have kd2 : KdH Z.H0 kids dp (q :: own) H1 D1 D2 qs := kd1.owns fun a ha => List.mem_cons_of_mem _ ha
    refine h.run (q :: own) σ _ (g2.writeX (fun vs z => nomatch z) kd2.oD.1 kd2.oD.2 (fun i b C e _ => no i b C e)) ⟨D1, D2, qs ++ [some q], e1, e2, kd2.kapp (some q) fun q' z => ?_⟩
    cases z
    exact ⟨List.mem_cons_self, g.fresh fr, q4, fun z => qn (z ▸ kd.oD.1), fun z => qn (z ▸ kd.oD2.1), fun j z => qn (kd.neq j q z).2.2.1⟩
/-- kids = [[]]; depths = [1] -/
theorem trk_start (g : Good u N sc k X) (hf : ∀ x, X.fn x = true) (ik id : Nat) (hik : N[ik]? = some x) (hid : N[id]? = some y) (hlk : okLoc sc x = true) (hld : okLoc sc y = true) (ne : ik ≠ id) (bk : Nat.blt ik Γ.length = true) (bd : Nat.blt id Γ.length = true)
    (he1 : ∀ G, JN X { Z with G := G } Γ a (ownL [isNewL G])) (he2 : JN X Z (Γ.set ik .any) b (ownL [isI 1])) (h : TrK X Z ((Γ.set ik .any).set id .any) ik id [some []] [1] rest D) {px py : Pos}
    (hs1 : swapsWith a (some (.Name x px)) pos.line X.env = pure false) (hs2 : swapsWith b (some (.Name y py)) pos2.line X.env = pure false) :
    Tr X Z Γ (.Assign [.Name x px] a pos :: .Assign [.Name y py] b pos2 :: rest) D := by
  obtain ⟨l1, l2⟩ := g.hf hf hlk
  obtain ⟨m1, m2⟩ := g.hf hf hld
  obtain ⟨rfl, rfl, rfl, -, -, -, nd⟩ := g
  refine tr_of (pss_cons (ps_set (i := ik) nd hik l1 peW hs1 l2) (pss_cons (ps_set (i := id) nd hid m1 peW hs2 m2) pssW)) fun own σ H g => ?_
  refine he1 (Wd.hid own H) own σ H g.more _ fun p o H1 s1 hp ho hc => ?_
  have g1 : StO Z own (Γ.set ik .any) (σ.set ik (some (.ref p))) H := g.setAny ik _
  refine he2 own _ H1 (g1.grow s1) _ fun p2 o2 H2 s2 hp2 ho2 hc2 => ?_
  obtain ⟨vs, rfl, hv⟩ := hc
  obtain ⟨v, rfl, q, rfl, q1, q2⟩ := all1 hv
  obtain ⟨q3, q4⟩ := hid_some q2
  have qp : q ≠ p := fun z => q3 (z ▸ List.mem_cons_self)
  have fr : H q = none := by
    cases z : H q with
    | none => rfl
    | some o => rw [hid_out (fun y => q3 (List.mem_cons_of_mem _ y)), z] at q1; cases q1
  obtain ⟨vs2, rfl, hv2⟩ := hc2
  obtain ⟨w, rfl, hw⟩ := all1 hv2
  rw [show w = nV 1 from hw] at ho2
  have s12 := s1.trans s2
  have fp2 : H p2 = none := L2.Same.free s1 hp2
  have g2 : StO Z own ((Γ.set ik .any).set id .any) ((σ.set ik (some (.ref p))).set id (some (.ref p2))) H := g1.setAny id _
  have ll := g.len
  rw [Nat.blt_eq] at bk bd
  have n1 : q ≠ p2 := fun z => by rw [z] at q4; rw [q4] at hp2; cases hp2
  have n2 : p ≠ p2 := fun z => by rw [z] at ho; rw [ho] at hp2; cases hp2
  refine h.run _ _ H2 (g2.ownedL (ps := [p, q, p2]) s12 fun c hc => ?_) ⟨p, p2, [some q], ?_, ?_, ⟨s2 _ _ ho, ho2, rfl, fun j e => ?_, fun j q' e => ?_, fun j j' q' e e' => ?_, n2, fun j q' e => ?_, ⟨by simp, g.fresh hp⟩, ⟨by simp, g.fresh fp2⟩⟩⟩
  · simp only [List.mem_cons, List.not_mem_nil, or_false] at hc
    rcases hc with rfl | rfl | rfl
    · exact ⟨hp, by rw [s2 _ _ ho]; exact live_of fun vs z => nomatch z⟩
    · exact ⟨fr, by rw [s2 _ _ q4]; exact live_of fun vs z => nomatch z⟩
    · exact ⟨fp2, by rw [ho2]; exact live_of fun vs z => nomatch z⟩
  · rw [getD_set, if_neg (fun z => ne z.1.symm), getD_set, if_pos ⟨rfl, by omega⟩]
  · rw [getD_set, if_pos ⟨rfl, by rw [List.length_set]; omega⟩]
  · cases j with
    | zero => cases e
    | succ j => cases e
  · cases j with
    | zero => cases e; exact ⟨[], rfl, s2 _ _ q4⟩
    | succ j => cases e
  · cases j with
    | zero =>
      cases j' with
      | zero => rfl
      | succ j' => cases e'
    | succ j => cases e
  · cases j with
    | zero => cases e; exact ⟨qp, n1, by simp, g.fresh fr⟩
    | succ j => cases e
/-! ### for -/
def InK (Z : Zn) (Γ : List Ty) (ik id : Nat) {α : Type} (kf : α → KidL) (df : α → List Nat) (φ : α → Prop) : L2.St → Hp → Prop := fun σ H => ∃ a own, φ a ∧ StO Z own Γ σ H ∧ KdA Z.H0 ik id (kf a) (df a) own σ H
theorem wipe_get {i : Nat} : ∀ {ws : List Nat} {σ : L2.St}, i ∉ ws → (wipe σ ws).getD i none = σ.getD i none
  | [], _, _ => rfl
  | w :: ws, σ, h => by
    show ((wipe σ ws).set w none).getD i none = _
    rw [getD_set, if_neg (fun z => h (by rw [z.1]; exact List.mem_cons_self)), wipe_get fun z => h (List.mem_cons_of_mem _ z)]
theorem trk_for {α : Type} (g : Good u N sc k X) {body : List Stmt} (hi : JI X Z Γ tg iter Ps) (kf : α → KidL) (df : α → List Nat) (φ : Nat → α → Prop) (a0 : α) (h0 : φ 0 a0)
    (hs : ∀ (i : Nat) (P : Pr) (a : α) (G : Hp), Ps[i]? = some P → φ i a → ∃ l, (∀ q ∈ l, q.1 ≠ ik ∧ q.1 ≠ id) ∧ JG X { Z with G := G } Γ tg P l ∧
      TrK X { Z with G := G } (setAll Γ l) ik id (kf a) (df a) body { D with nx := InK { Z with G := G } Γ ik id kf df (φ (i + 1)), ct := InK { Z with G := G } Γ ik id kf df (φ (i + 1)), bk := tWs X rest D })
    (hd : ∀ a, φ Ps.length a → TrK X Z Γ ik id (kf a) (df a) rest D) (hf : ∀ x, foldedSetIterable iter X.env x = pure x) : TrK X Z Γ ik id (kf a0) (df a0) (.For tg iter body [] pos :: rest) D := by
  obtain ⟨rfl, -, -, hc, -, hx, -⟩ := g
  obtain ⟨wi, p1, p2⟩ := hi
  refine trk_of (pss_cons (ps_for (by rw [hx]; exact PassesOwn.never) hc p1 pgW pssW hf) pssW) fun own σ H g kd => p2 own σ H g _ fun T H1 s1 src => ?_
  have gG := (g.grow s1).more
  have less : ∀ {own' Γ' σ' H'}, StO { Z with G := hid own H1 } own' Γ' σ' H' → StO Z own' Γ' σ' H' := fun g' => g'.less (G := Z.G) (g.grow s1).gh
  refine ⟨fun i m σ H => m = Ps.length - i ∧ i ≤ Ps.length ∧ InK { Z with G := hid own H1 } Γ ik id kf df (φ i) σ H, ⟨Ps.length, by simp, Nat.zero_le _, a0, own, h0, gG, kd.grow s1⟩, ?_⟩
  rintro i m σ' H' ⟨rfl, hi, a, own', hI, g', kd'⟩
  by_cases hlt : i < Ps.length
  · obtain ⟨go, yl⟩ := src.1 i Ps[i] (by rw [List.getElem?_eq_getElem hlt]) own' H' g'.gh g'.dom'
    refine .inr ⟨go, InK { Z with G := hid own H1 } Γ ik id kf df (φ (i + 1)), fun σ2 H2 h2 => ⟨Ps.length - (i + 1), by omega, rfl, hlt, h2⟩, fun v H2 y => ?_⟩
    obtain ⟨s2, pv⟩ := yl v H2 y
    obtain ⟨l, hl, jg, tb⟩ := hs i Ps[i] a (hid own H1) (by rw [List.getElem?_eq_getElem hlt]) hI
    refine jg own' σ' H2 v (g'.grow s2) pv _ fun σ3 g3 w3 => tb.run own' σ3 H2 g3 ((kd'.grow s2).same ?_ ?_)
    · have w := w3 (l.map (·.1)) fun q hq => List.mem_map_of_mem hq
      have n : ik ∉ l.map (·.1) := fun z => by
        obtain ⟨q, hq, e⟩ := List.mem_map.mp z
        exact (hl q hq).1 e
      rw [← wipe_get n, w, wipe_get n]
    · have w := w3 (l.map (·.1)) fun q hq => List.mem_map_of_mem hq
      have n : id ∉ l.map (·.1) := fun z => by
        obtain ⟨q, hq, e⟩ := List.mem_map.mp z
        exact (hl q hq).2 e
      rw [← wipe_get n, w, wipe_get n]
  · obtain rfl : i = Ps.length := by omega
    exact .inl ⟨src.2 own' H' g'.gh, (hd a hI).run own' σ' H' (less g') kd'⟩
theorem trk_turn {α : Type} {kf : α → KidL} {df : α → List Nat} {Γ' : List Ty} {φ : α → Prop} {D' : Ends} (a : α) (hD : D'.nx = InK Z Γ' ik id kf df φ) (h : φ a) (hk : kids = kf a) (hd : dp = df a) (hs : Sub Γ Γ') : TrK X Z Γ ik id kids dp [] D' := trk_of pss_nil fun own σ H g kd => by
  subst hk hd
  show D'.nx σ H
  rw [hD]
  exact ⟨a, own, h, g.sub hs, kd⟩
end
end Wd
namespace Wd
open PySem PySem.Spec L2
section
variable {u : Uni} {N : List Str} {sc : Scope} {k : Nat} {X : Cx} {Z : Zn} {Γ : List Ty} {tg iter : Expr} {Ps : List Pr} {pos : Pos} {D : Ends} {rest : List Stmt} {ik id : Nat}
/-- what stands behind the loop may be reached by a break, too -/
theorem trk_forB {α : Type} (g : Good u N sc k X) {body : List Stmt} (hi : JI X Z Γ tg iter Ps) (kf : α → KidL) (df : α → List Nat) (φ : Nat → α → Prop) (a0 : α) (h0 : φ 0 a0)
    (hd : ∀ i a G, i ≤ Ps.length → φ i a → TrK X { Z with G := G } Γ ik id (kf a) (df a) rest D)
    (hs : ∀ (i : Nat) (P : Pr) (a : α) (G : Hp), Ps[i]? = some P → φ i a → TrK X { Z with G := G } Γ ik id (kf a) (df a) rest D → ∃ l, (∀ q ∈ l, q.1 ≠ ik ∧ q.1 ≠ id) ∧ JG X { Z with G := G } Γ tg P l ∧
      TrK X { Z with G := G } (setAll Γ l) ik id (kf a) (df a) body { D with nx := InK { Z with G := G } Γ ik id kf df (φ (i + 1)), ct := InK { Z with G := G } Γ ik id kf df (φ (i + 1)), bk := tWs X rest D })
    (hf : ∀ x, foldedSetIterable iter X.env x = pure x) : TrK X Z Γ ik id (kf a0) (df a0) (.For tg iter body [] pos :: rest) D :=
  trk_for g hi kf df φ a0 h0 (fun i P a G hP ha => hs i P a G hP ha (hd i a G (Nat.le_of_lt (get_lt hP)) ha)) (fun a ha => hd Ps.length a Z.G (Nat.le_refl _) ha) hf
end
end Wd

end

section
set_option maxRecDepth 100000
set_option maxHeartbeats 4000000
namespace Wd
open PySem PySem.Spec L2
section
variable {u : Uni} {N : List Str} {sc : Scope} {k : Nat} {X : Cx} {Z : Zn} {Γ : List Ty} {a : Expr} {P : Pr} {pos p pd : Pos} {x : Str} {sp : Sp} {C1 : Ct}
/-- f(a, {}): the table comes back filled -/
theorem jn_callD {j : Nat} (g : Good u N sc k X) (F : Callable u x j sp []) (hj : j ≤ k) (hsp : ∀ vs H Q, Pw (ownDK []) [P] [] C1 (fun p => isV (.ref p)) vs H Q → sp vs H Q E0) (ha : J X Z Γ a P) (hg : okGl sc x = true)
    (hs : starEach [a, .Dict [] [] pd] X.env = (false, eval a X.env) :: starEach [.Dict [] [] pd] X.env) (hs2 : starEach [.Dict [] [] pd] X.env = (false, eval (.Dict [] [] pd) X.env) :: starEach [] X.env) (hpl : (backTo pos (starEach [.Dict [] [] pd] X.env)).any (·.1) = false) : JN X Z Γ (.Call (.Name x p) [a, .Dict [] [] pd] [] pos) C1 := by
  obtain ⟨rfl, rfl, rfl, -, hr, -, -⟩ := g
  obtain ⟨f, fd, ps, ds, h1, h2, h3, h4, h5⟩ := F.ex
  obtain ⟨g1, g2, _⟩ := okGl_gl hg
  refine jn_of (pe_call h5 (hr.mono hj) g1 h1 h2 h3 h4 pass0 (pa_cons peW (pa_cons pe_dnewK pa_nil hs2) hs) g2 hs hpl) fun own σ H g Q q => ?_
  refine ha own σ H g _ fun v H1 s1 p1 => fun l hl => ?_
  have s2 : Same H1 (upd H1 l (.dK [])) := same_new hl
  have fr : H l = none := L2.Same.free s1 hl
  refine hsp _ _ _ ⟨l :: own, l, [v], [], .dK [], rfl, fun b hb => ?_, List.mem_cons_self, upd_same, rfl, .cons (P.mono (hid_new hl s2) p1) .nil, .nil, fun v' H' o' k1 k2 k3 k4 => ?_⟩
  · rcases List.mem_cons.mp hb with rfl | hb
    · rw [upd_same]; exact live_of fun vs z => nomatch z
    · exact ((g.grow s1).grow s2).dom b hb
  · rw [show v' = .ref l from k4]
    refine q l o' H' (fun b w e => ?_) fr k2 k3
    have n : b ≠ l := ne_of_none e fr
    exact k1 b w n (by rw [upd_ne n]; exact s1 _ _ e)
end
end Wd

end

section
set_option maxRecDepth 100000
set_option maxHeartbeats 4000000
namespace Wd
open PySem PySem.Spec L2
/-! ### the words of the walk -/
example : True := by
  k_with "at" => repeat (first | with_reducible exact At.here | with_reducible apply At.there)
  k_with "nm" => ((with_reducible apply lkA nm); (· k_extra "at"); (· exact rfl); (· k_extra "at"))
  k_with "gl" => ((with_reducible apply Nm.gl nm); (· k_extra "at"))
  k_with "bin" => first
    | with_reducible exact bin_add
    | with_reducible exact bin_sub
    | ((with_reducible apply bin_mul); (· k_extra "side"))
    | ((with_reducible apply bin_mod); (· k_extra "side"))
    | ((with_reducible apply bin_fdiv); (· k_extra "side"))
    | ((with_reducible apply bin_addS); (· k_extra "side"))
    | ((with_reducible apply bin_pow); (· k_extra "side"))
  k_with "cmp" => first
    | with_reducible exact cmp_lt
    | with_reducible exact cmp_le
    | with_reducible exact cmp_gt
    | with_reducible exact cmp_ge
    | with_reducible exact cmp_eqI
    | with_reducible exact cmp_neI
    | with_reducible exact cmp_eqS
    | with_reducible exact cmp_neS
    | with_reducible assumption
    | ((with_reducible apply cmp_isN); (· k_extra "isnone"))
    | ((with_reducible apply cmp_isNotN); (· k_extra "isnone"))
  k_with "isnone" => first
    | with_reducible exact nn_N
    | with_reducible exact nn_I
    | with_reducible exact nn_S
    | ((with_reducible apply nn_T); (· k_extra "tup"))
    | assumption
  k_with "side" => first | with_reducible assumption | assumption | omega | decide
  k_with "bside" => first | exact decide_eq_false (by omega) | exact decide_eq_true (by omega) | rfl | assumption | (simp; done) | (simp; omega)
  k_with "tup" => first | with_reducible exact tup_T | with_reducible exact tup_Tt | assumption
  k_with "lst" => first | with_reducible exact lst_L | with_reducible exact lst_R | assumption
  k_with "ix" => first
    | ((with_reducible apply ix_T); (· k_extra "tup"); (· first | exact rfl | k_extra "side"))
    | ((with_reducible apply ix_L); (· k_extra "lst"); (· first | exact rfl | k_extra "side"))
    | ((with_reducible apply ix_S); (· k_extra "side"); (· first | exact rfl | k_extra "side"))
  k_with "len" => first
    | ((with_reducible apply len_T); (· k_extra "tup"); (· first | assumption | exact rfl | k_extra "side"))
    | ((with_reducible apply len_L); (· k_extra "lst"); (· first | assumption | exact rfl | k_extra "side"))
    | ((with_reducible apply len_S); (· k_extra "side"); (· first | assumption | exact rfl | k_extra "side"))
  k_with "ty" => first
    | with_reducible exact ty_int
    | with_reducible exact ty_bl
    | with_reducible exact ty_str
    | ((with_reducible apply ty_tup); (· k_extra "tup"))
    | assumption
  k_with "isi" => (· k_extra "at"); (· k_extra "at"); (· k_extra "j"); (· k_extra "ty"); (· first | exact kit_ii | exact kit_ib | exact kit_bb | exact kit_ss | exact kit_tt | exact kit_ll); (· exact rfl)
  k_with "call" => first
    | ((with_reducible apply jb_len g bt nm); (· k_extra "at"); (· k_extra "j"); (· k_extra "len"); (· exact rfl))
    | ((with_reducible apply jb_abs g bt nm); (· k_extra "at"); (· k_extra "j"); (· exact rfl))
    | ((with_reducible apply jb_max g bt nm); (· k_extra "at"); (· k_extra "j"); (· k_extra "j"); (· exact rfl); (· exact rfl); (· exact rfl))
    | ((with_reducible apply jb_min g bt nm); (· k_extra "at"); (· k_extra "j"); (· k_extra "j"); (· exact rfl); (· exact rfl); (· exact rfl))
    | ((with_reducible apply jb_intB g bt nm); (· k_extra "at"); (· k_extra "j"); (· exact rfl))
    | ((with_reducible apply jb_str g bt nm); (· k_extra "at"); (· k_extra "j"); (· k_extra "side"); (· exact rfl))
    | ((with_reducible apply jb_sum g bt nm); (· k_extra "at"); (· k_extra "j"); (· k_extra "lst"); (· exact rfl))
    | ((with_reducible apply jb_all g bt nm); (· k_extra "at"); (· k_extra "j"); (· k_extra "lst"); (· exact rfl))
    | ((with_reducible apply jb_tuple g bt nm); (· k_extra "at"); (· k_extra "j"); (· k_extra "lst"); (· exact rfl))
    | ((with_reducible apply jb_isi g bt nm (y := "int") bt.int (by first | exact PySem.boot_int | exact PyProof.Rows.boot_int)); k_extra "isi")
    | ((with_reducible apply jb_isi g bt nm (y := "str") bt.str (by first | exact PySem.boot_str | exact PyProof.Rows.boot_str)); k_extra "isi")
    | ((with_reducible apply jb_isi g bt nm (y := "bool") bt.bool (by first | exact PySem.boot_bool | exact PyProof.Rows.boot_bool)); k_extra "isi")
    | ((with_reducible apply jb_isi g bt nm (y := "list") bt.list (by first | exact PySem.boot_list | exact PyProof.Rows.boot_list)); k_extra "isi")
    | ((with_reducible apply jb_isi g bt nm (y := "tuple") bt.tuple (by first | exact PySem.boot_tuple | exact PyProof.Rows.boot_tuple)); k_extra "isi")
  k_with "ja" => first
    | with_reducible exact ja_nil
    | ((with_reducible apply ja_cons); (· k_extra "j"); (· k_extra "ja"); (· exact rfl))
  k_with "j" => first
    | with_reducible assumption
    | with_reducible exact j_int
    | with_reducible exact j_str
    | with_reducible exact j_bl
    | with_reducible exact j_non
    | ((with_reducible apply j_nm g); (· k_extra "nm"))
    | ((with_reducible apply j_glo g); (· with_reducible assumption); (· k_extra "gl"))
    | ((with_reducible apply j_bin); (· k_extra "j"); (· k_extra "j"); (· k_extra "bin"))
    | ((with_reducible apply j_neg); (· k_extra "j"))
    | ((with_reducible apply j_ix g); (· k_extra "j"); (· k_extra "j"); (· k_extra "ix"); (· exact fun _ _ => rfl))
    | ((with_reducible apply j_ixOA g nm); (· k_extra "at"); (· k_extra "at"); (· exact rfl); (· k_extra "j"); (· first | exact rfl | k_extra "side"); (· exact fun _ _ => rfl))
    | k_extra "call"
    | ((with_reducible apply j_comp); (· k_extra "comp"))
    | ((with_reducible apply j_slL g); (· k_extra "j"); (· k_extra "lst"); (· k_extra "jp"); (· k_extra "jp"))
    | ((with_reducible apply j_sliceS); (· k_extra "j"); (· k_extra "jp"); (· k_extra "jp"); (· k_extra "side"))
    | ((with_reducible apply j_cat); (· k_extra "j"); (· k_extra "j"); (· k_extra "side"))
    | ((with_reducible apply j_cmp); (· k_extra "j"); (· k_extra "j"); (· k_extra "cmp"); (· exact rfl))
    | ((with_reducible apply j_tup g); (· k_extra "ja"); (· exact Nat.le_of_ble_eq_true rfl))
    | ((with_reducible apply j_lst); (· k_extra "ja"); (· exact Nat.le_of_ble_eq_true rfl))
    | ((with_reducible apply j_not); (· k_extra "j"))
    | ((with_reducible apply j_one); (· k_extra "j"))
    | ((with_reducible apply j_and); (· k_extra "j"); (· intro e; first | exact (show J _ _ _ _ (isB false) from absurd e (by decide)) | k_extra "j"))
    | ((with_reducible apply j_or); (· k_extra "j"); (· intro e; first | exact (show J _ _ _ _ (isB false) from absurd e (by decide)) | k_extra "j"))
  k_with "t" => first
    | with_reducible assumption
    | ((with_reducible apply jt_cmp); (· k_extra "j"); (· k_extra "j"); (· k_extra "cmp"); (· exact rfl))
    | ((with_reducible apply jt_chain); (· k_extra "j"); (· k_extra "j"); (· k_extra "j"); (· k_extra "cmp"); (· k_extra "cmp"); (· exact rfl))
    | ((with_reducible apply jt_not); (· k_extra "t"))
    | ((with_reducible apply jt_bool); (· k_extra "w"))
    | ((with_reducible apply jt_name); (· k_extra "j"))
    | ((with_reducible apply jt_call); (· k_extra "j"))
    | ((with_reducible apply jt_const); (· k_extra "j"))
  k_with "w" => first
    | ((with_reducible apply jw_and1); (· k_extra "t"))
    | ((with_reducible apply jw_or1); (· k_extra "t"))
    | ((with_reducible apply jw_and); (· k_extra "t"); (· intro e; first | exact (show JW _ _ _ _ false from absurd e (by decide)) | k_extra "w"))
    | ((with_reducible apply jw_or); (· k_extra "t"); (· intro e; first | exact (show JW _ _ _ _ false from absurd e (by decide)) | k_extra "w"))
  k_with "jp" => first
    | with_reducible exact jp_none
    | ((with_reducible apply jp_some); (· k_extra "j"))
  k_with "store" => first | (apply tr_storeA g nm; (· k_extra "at"); (· k_extra "at"); (· exact rfl); (· k_extra "j"); (· k_extra "j"); (· first | exact rfl | k_extra "side"); (· exact rfl); (· exact rfl); (· exact rfl); (· exact fun _ => rfl)) | fail
  k_with "extend" => first | (apply tr_extendA g hf S; (· k_extra "at"); (· k_extra "at"); (· exact rfl); (· k_extra "j"); (· k_extra "side")) | fail
  k_with "aug" => first | (apply tr_augIA g hf S; (· k_extra "at"); (· k_extra "at"); (· exact rfl); (· k_extra "j"); (· exact rfl)) | fail
  k_with "jg" => first
    | ((with_reducible apply jg_let g hf S); (· k_extra "at"); (· k_extra "at"); (· exact rfl))
    | ((with_reducible apply jg_tup g); (· k_extra "tup"); (· k_extra "jgs"); (· exact rfl); (· exact rfl))
  k_with "jgs" => first
    | with_reducible exact jgs_nil
    | ((with_reducible apply jgs_cons); (· k_extra "jg"); (· k_extra "jgs"); (· exact rfl))
  k_with "jgo" => first
    | ((with_reducible apply jg_ownA g nm); (· k_extra "at"); (· decide +kernel); (· exact rfl))
    | ((with_reducible apply jg_tup g); (· k_extra "tup"); (· k_extra "jgos"); (· exact rfl); (· exact rfl))
  k_with "jgos" => first
    | with_reducible exact jgs_nil
    | ((with_reducible apply jgs_cons); (· k_extra "jgo"); (· k_extra "jgos"); (· exact rfl))
  k_with "jn" => first
    | with_reducible assumption
    | ((with_reducible apply jn_lst); (· k_extra "ja"); (· exact Nat.le_of_ble_eq_true rfl))
    | ((with_reducible apply jn_cat); (· k_extra "j"); (· k_extra "j"); (· k_extra "side"))
    | ((with_reducible apply jnb_list g bt nm); (· k_extra "at"); (· k_extra "j"); (· k_extra "lst"); (· exact rfl))
  k_with "ji" => first
    | with_reducible assumption
    | ((with_reducible apply ji_range1 g bt.range); (· k_extra "gl"); (· k_extra "j"); (· k_extra "side"); (· exact rfl))
    | ((with_reducible apply ji_range2 g bt.range); (· k_extra "gl"); (· k_extra "j"); (· k_extra "j"); (· k_extra "side"); (· k_extra "side"); (· k_extra "side"); (· k_extra "side"); (· exact rfl); (· exact rfl))
    | ((with_reducible apply ji_list g); (· k_extra "j"); (· k_extra "lst"))
    | ((with_reducible apply ji_tup g); (· k_extra "j"); (· k_extra "tup"))
  k_with "sub" => repeat (first | exact Sub.nil | (apply Sub.cons; (· first | exact Ty.Le.refl _ | exact Ty.Le.any _)))
  k_with "append" => first | (apply tr_appendA g nm; (· k_extra "at"); (· k_extra "at"); (· exact rfl); (· k_extra "j"); (· k_extra "side"); (· exact rfl); (· exact rfl); (· exact rfl); (· exact rfl); (· exact rfl)) | fail
  k_with "let" => first | (apply tr_let g hf S; (· k_extra "at"); (· k_extra "at"); (· k_extra "j"); (· exact rfl); (· exact rfl)) | fail
  k_with "letN" => first | (apply tr_letN g hf S; (· k_extra "at"); (· k_extra "at"); (· k_extra "jn"); (· exact rfl); (· exact rfl)) | fail
  k_with "pair" => first | (apply tr_pair g nm; (· k_extra "at"); (· k_extra "at"); (· k_extra "j"); (· k_extra "j"); (· exact rfl); (· exact rfl); (· exact rfl); (· exact rfl); (· exact rfl); (· exact rfl); (· decide +kernel); (· decide +kernel); (· kernel_rfl)) | fail
  k_with "skip" => first | (apply tr_skip; (· apply JT.to; (· k_extra "t"); (· k_extra "bside"))) | fail
  k_with "if" => first | (apply tr_if; (· k_extra "t")) | fail
  k_with "ifT" => first | (apply tr_ifT; (· apply JT.to; (· k_extra "t"); (· k_extra "bside"))) | fail
  k_with "ifF" => first | (apply tr_ifF; (· apply JT.to; (· k_extra "t"); (· k_extra "bside"))) | fail
  k_with "ret" => first | (apply tr_retP; apply J.to; (· k_extra "j")) | fail
  k_with "retL" => first | (apply tr_retL; (· apply J.to; (· k_extra "j"); (· first | with_reducible rfl | skip)); (· exact rfl)) | fail
  k_with "retLT" => first | (apply tr_retL (hD := rfl); apply J.imp; (· k_extra "j")) | fail
  k_with "retT" => first | (apply tr_retP; apply J.imp; (· k_extra "j")) | fail
  k_with "retBT" => first | (apply tr_retB; apply J.imp; (· k_extra "j")) | fail
  k_with "retB" => first | (apply tr_retB; apply J.to; (· k_extra "j")) | fail
  trivial
theorem nmOf {u : Uni} {N : List Str} {sc : Scope} {k : Nat} {X : Cx} (g : Good u N sc k X) (V G : List Str) (h : (V.all (okVar sc) && G.all (okGl sc)) = true) : Nm sc V G := ⟨(and2 h).1, (and2 h).2⟩

/-! ### parts: fractions in lowest terms are rationals -/
def isPt (K : PySem.W.Frag) (q : Rat) : Pr := isT K [isI q.num, isI (q.den : Int)]
theorem tup_Pt {K : PySem.W.Frag} {q : Rat} : TupP K (isPt K q) [isI q.num, isI (q.den : Int)] := fun _ _ h => h
/-- numbers that the machine reckons with at ease -/
def Md (q : Rat) : Prop := q.num.natAbs < 2 ^ 4000 ∧ q.den < 2 ^ 2000
theorem md_nd {q r : Rat} (h : Md q) (h2 : Md r) : CMulW q.num (r.den : Int) := wide_mul h.1 (b := 2000) h2.2 (by decide) (by decide) (by decide)
theorem md_nn {q r : Rat} (h : Md q) (h2 : Md r) : CMulW q.num r.num := wide_mul h.1 h2.1 (by decide) (by decide) (by decide)
theorem md_dd {q r : Rat} (h : Md q) (h2 : Md r) : CMulW (q.den : Int) (r.den : Int) := wide_mul (a := 2000) h.2 (b := 2000) h2.2 (by decide) (by decide) (by decide)
theorem md_dn {q r : Rat} (h : Md q) (h2 : Md r) : CMulW (q.den : Int) r.num := wide_mul (a := 2000) h.2 h2.1 (by decide) (by decide) (by decide)
example : True := by
  k_with "tup" => with_reducible exact tup_Pt
  k_with "side" => first | ((with_reducible apply md_nd); (· with_reducible assumption); (· with_reducible assumption)) | ((with_reducible apply md_nn); (· with_reducible assumption); (· with_reducible assumption)) | ((with_reducible apply md_dd); (· with_reducible assumption); (· with_reducible assumption)) | ((with_reducible apply md_dn); (· with_reducible assumption); (· with_reducible assumption))
  trivial
/-- a pair in lowest terms is the part -/
theorem pt_gcd {K : PySem.W.Frag} {n : Int} {d : Nat} (h : 0 < d) : isT K [isI (n / (Nat.gcd n.natAbs d : Nat)), isI ((d : Int) / (Nat.gcd n.natAbs d : Nat))] = isPt K (mkRat n d) := by
  have e : (d : Int) / (Nat.gcd n.natAbs d : Nat) = ((d / Nat.gcd d n.natAbs : Nat) : Int) := by rw [Nat.gcd_comm]; rfl
  unfold isPt
  rw [Rat.num_mkRat, Rat.den_mkRat, if_neg (by omega), if_neg (by omega), e, Nat.gcd_comm d]

theorem S_common_divisor : FnS ["one", "other"] ["one", "other"] ["one", "other"] [] (defScope (topS 9)) := ⟨by decide +kernel⟩
def sp_common_divisor (u : Uni) : Sp := fun vs H Q _ => ∃ (a b : Nat), Pf [isI (a : Int), isI (b : Int)] (isI ((Nat.gcd a b : Nat) : Int)) vs H Q
theorem jc_common_divisor {u : Uni} {N V G : List Str} {sc : Scope} {k l j : Nat} {X : Cx} {Z : Zn} {Γ : List Ty} {e0 e1 : Expr} {pos p : Pos} {a b : Nat} (g : Good u N sc k X) (nm : Nm sc V G) (F : Callable u "common_divisor" l (sp_common_divisor u) []) (hl : Nat.ble l k = true) (hG : At G j "common_divisor") (ha : JA X Z Γ [e0, e1] [isI (a : Int), isI (b : Int)])  (hs : starEach [e0, e1] X.env = (false, eval e0 X.env) :: starEach [e1] X.env) (hp : (backTo pos (starEach [e1] X.env)).any (·.1) = false) : J X Z Γ (.Call (.Name "common_divisor" p) [e0, e1] [] pos) (isI ((Nat.gcd a b : Nat) : Int)) :=
  j_call g F (Nat.le_of_ble_eq_true hl) (fun _ _ _ h => ⟨a, b, h⟩) ha (nm.gl hG) hs hp
example : True := by
  k_with "call" => ((with_reducible apply jc_common_divisor g nm c_common_divisor); (· exact rfl); (· k_extra "at"); (· k_extra "ja"); (· exact rfl); (· exact rfl))
  trivial
theorem c_common_divisor {u : Uni} (Df : Defd u "common_divisor" "common_divisor" (topS 9) []) : Callable u "common_divisor" 1 (sp_common_divisor u) [] := by
  refine fn_pure (k := 0) (ps := ["one", "other"]) Df S_common_divisor.scope (fun f fd F => ⟨[], F.bindsN (fun _ _ _ _ _ _ us hl => match us, hl with | [_, _], _ => rfl), .nil⟩) ?_ (fun _ _ _ _ h => h)
  rintro vs H Q ⟨a, b, h⟩
  refine ⟨_, _, rfl, h, fun X Z hM g hf => ?_⟩
  have S := S_common_divisor
  have nm := S.nm
  refine tr_whileD g (Γ := _) (fun q : Nat × Nat => [.val (isI (q.1 : Int)), .val (isI (q.2 : Int))]) (fun q => Nat.gcd q.1 q.2 = Nat.gcd a b) (fun q => q.2) (a, b) rfl rfl ?_
  rintro ⟨a', b'⟩ hq
  refine ⟨decide ((0 : Int) < b'), by k_extra "t", fun e => ?_, fun e => ?_⟩
  · have hb : 0 < b' := by have := of_decide_eq_true e; omega
    have hb' : (0 : Int) < (b' : Int) := by omega
    k_extra "pair"
    refine tr_turnD (b', a' % b') rfl ⟨?_, Nat.mod_lt _ hb⟩ (Sub.refl _)
    show Nat.gcd b' (a' % b') = _
    rw [← hq, Nat.gcd_comm a' b', Nat.gcd_rec b' a', Nat.gcd_comm]
  · have hb : b' = 0 := by have := of_decide_eq_false e; omega
    subst hb
    k_extra "ret"
    rw [← hq, Nat.gcd_zero_right]
/-- .. of the program's own making -/
theorem tup_Ptt {K : PySem.W.Frag} {q : Rat} : TupP K (isPtt q) [isI q.num, isI (q.den : Int)] := tup_Tt
theorem ptt_Pt {K : PySem.W.Frag} {q : Rat} (S : Hp) (v : V) (h : (isPtt q).p S v) : (isPt K q).p S v := tt_T S v h
example : True := by
  k_with "tup" => with_reducible exact tup_Ptt
  trivial
theorem ptt_gcd {n : Int} {d : Nat} (h : 0 < d) : isTt [isI (n / (Nat.gcd n.natAbs d : Nat)), isI ((d : Int) / (Nat.gcd n.natAbs d : Nat))] = isPtt (mkRat n d) := by
  have e : (d : Int) / (Nat.gcd n.natAbs d : Nat) = ((d / Nat.gcd d n.natAbs : Nat) : Int) := by rw [Nat.gcd_comm]; rfl
  unfold isPtt
  rw [Rat.num_mkRat, Rat.den_mkRat, if_neg (by omega), if_neg (by omega), e, Nat.gcd_comm d]
theorem S_part_of : FnS ["top", "bottom", "divisor"] ["top", "bottom"] ["top", "bottom", "divisor"] ["NoPart", "common_divisor", "abs"] (defScope (topS 12)) := ⟨by decide +kernel⟩
def sp_part_of (u : Uni) : Sp := fun vs H Q _ => ∃ (n : Int) (d : Nat), 0 < d ∧ d < 2 ^ 8000 ∧ Pf [isI n, isI (d : Int)] (isPtt (mkRat n d)) vs H Q
theorem b_part_of {u : Uni} {dvs ds0 : List V} (Df : Defd u "part_of" "part_of" (topS 12) [.int 1]) (c_common_divisor : Callable u "common_divisor" 1 (sp_common_divisor u) [])
    (bt : Bts u) (hb : ∀ f fd, FunD u.K "part_of" "part_of" (defArgs (topS 12)) (defBody (topS 12)) (defScope (topS 12)) [.int 1] [] f fd → ∃ ds, Binds u.K fd ["top", "bottom"] ds ∧ Vals dvs ds) : Callable u "part_of" 2 (sp_part_of u) dvs := by
  refine fn_pure (k := 1) (ps := ["top", "bottom"]) Df S_part_of.scope hb ?_ (fun _ _ _ _ h => h)
  rintro vs H Q ⟨n, d, h1, h2, h⟩
  refine ⟨_, _, rfl, h, fun X Z hM g hf => ?_⟩
  have S := S_part_of
  have nm := S.nm
  k_extra "skip"
  have hg : 0 < Nat.gcd n.natAbs d := Nat.gcd_pos_of_pos_right _ h1
  have hc : CDivW n (Nat.gcd n.natAbs d : Nat) := wide_div (by omega) (b := 8000) (by rw [Int.natAbs_natCast]; exact Nat.lt_of_le_of_lt (Nat.gcd_le_right _ h1) h2) (by decide) (by decide)
  have hc2 : CDivW (d : Int) (Nat.gcd n.natAbs d : Nat) := wide_div (by omega) (b := 8000) (by rw [Int.natAbs_natCast]; exact Nat.lt_of_le_of_lt (Nat.gcd_le_right _ h1) h2) (by decide) (by decide)
  k_extra "let"
  rw [Int.natAbs_natCast]
  k_extra "skip"
  k_extra "ret"
  exact ptt_gcd h1
theorem c_part_of {u : Uni} (Df : Defd u "part_of" "part_of" (topS 12) [.int 1]) (c_common_divisor : Callable u "common_divisor" 1 (sp_common_divisor u) []) (bt : Bts u) : Callable u "part_of" 2 (sp_part_of u) [] :=
  b_part_of (ds0 := []) Df c_common_divisor bt fun f fd F => let ⟨ds, r, b⟩ := FunD.binds1 F 2 1 (by simp) rfl (fun _ _ _ _ _ _ _ us its hl hi => match us, its, hl, hi with | [_, _], [_], _, _ => ⟨_, rfl, rfl⟩); ⟨ds, b, r⟩
theorem c_part_of1 {u : Uni} (Df : Defd u "part_of" "part_of" (topS 12) [.int 1]) (c_common_divisor : Callable u "common_divisor" 1 (sp_common_divisor u) []) (bt : Bts u) : Callable u "part_of" 2 (sp_part_of u) [.int 1] :=
  b_part_of (ds0 := []) Df c_common_divisor bt fun f fd F => let ⟨ds, r, b⟩ := FunD.binds1 F 1 0 (by simp) rfl (fun _ _ _ _ _ _ _ us its hl hi => match us, its, hl, hi with | [_], [_], _, _ => ⟨_, rfl, rfl⟩); ⟨ds, b, r⟩
section
variable {u : Uni} {N V G : List Str} {sc : Scope} {k l j : Nat} {X : Cx} {Z : Zn} {Γ : List Ty} {e0 e1 : Expr} {pos p : Pos}
theorem jc_part_of_t {n : Int} {d : Int} (g : Good u N sc k X) (nm : Nm sc V G) (F : Callable u "part_of" l (sp_part_of u) []) (hl : Nat.ble l k = true) (hG : At G j "part_of") (ha : JA X Z Γ [e0, e1] [isI n, isI d]) (h1 : 0 < d) (h2 : d.natAbs < 2 ^ 8000)
    (hs : starEach [e0, e1] X.env = (false, eval e0 X.env) :: starEach [e1] X.env) (hp : (backTo pos (starEach [e1] X.env)).any (·.1) = false) : J X Z Γ (.Call (.Name "part_of" p) [e0, e1] [] pos) (isPtt (mkRat n d.toNat)) :=
  j_call g F (Nat.le_of_ble_eq_true hl) (fun _ _ _ h => ⟨n, d.toNat, by omega, by rw [← Int.natAbs_of_nonneg (Int.le_of_lt h1), Int.toNat_natCast]; exact h2, by rw [Int.toNat_of_nonneg (Int.le_of_lt h1)]; exact h⟩) ha (nm.gl hG) hs hp
theorem jc_part_of {n : Int} {d : Int} (g : Good u N sc k X) (nm : Nm sc V G) (F : Callable u "part_of" l (sp_part_of u) []) (hl : Nat.ble l k = true) (hG : At G j "part_of") (ha : JA X Z Γ [e0, e1] [isI n, isI d]) (h1 : 0 < d) (h2 : d.natAbs < 2 ^ 8000)
    (hs : starEach [e0, e1] X.env = (false, eval e0 X.env) :: starEach [e1] X.env) (hp : (backTo pos (starEach [e1] X.env)).any (·.1) = false) : J X Z Γ (.Call (.Name "part_of" p) [e0, e1] [] pos) (isPt u.K (mkRat n d.toNat)) :=
  J.imp (jc_part_of_t g nm F hl hG ha h1 h2 hs hp) ptt_Pt
theorem mkRat_one (n : Int) : mkRat n 1 = (n : Rat) := by
  rw [Rat.mkRat_eq_div]
  show (n : Rat) / ((1 : Nat) : Rat) = n
  grind
theorem jc_part_of1 {n : Int} (g : Good u N sc k X) (nm : Nm sc V G) (F : Callable u "part_of" l (sp_part_of u) [.int 1]) (hl : Nat.ble l k = true) (hG : At G j "part_of") (ha : JA X Z Γ [e0] [isI n])
    (hs : starEach [e0] X.env = (false, eval e0 X.env) :: starEach [] X.env) : J X Z Γ (.Call (.Name "part_of" p) [e0] [] pos) (isPt u.K (n : Rat)) := by
  rw [← mkRat_one]
  exact J.imp (j_callD g F (Nat.le_of_ble_eq_true hl) (fun _ _ _ h => ⟨n, 1, by decide, by decide +kernel, h⟩) ha (nm.gl hG) hs rfl) ptt_Pt
end
example : True := by
  k_with "call" => ((with_reducible apply jc_part_of g nm c_part_of); (· exact rfl); (· k_extra "at"); (· k_extra "ja"); (· k_extra "side"); (· k_extra "side"); (· exact rfl); (· exact rfl))
  k_with "call" => ((with_reducible apply jc_part_of1 g nm c_part_of1); (· exact rfl); (· k_extra "at"); (· k_extra "ja"); (· exact rfl))
  trivial
theorem S_is_more : FnS ["one", "other"] ["one", "other"] ["one", "other"] [] (defScope (topS 17)) := ⟨by decide +kernel⟩
def sp_is_more (u : Uni) : Sp := fun vs H Q _ => ∃ (q r : Rat), (Md q) ∧ (Md r) ∧ Pf [isPt u.K q, isPt u.K r] (isB (decide (r < q))) vs H Q
theorem jc_is_more {u : Uni} {N V G : List Str} {sc : Scope} {k l j : Nat} {X : Cx} {Z : Zn} {Γ : List Ty} {e0 e1 : Expr} {pos p : Pos} {q r : Rat} (g : Good u N sc k X) (nm : Nm sc V G) (F : Callable u "is_more" l (sp_is_more u) []) (hl : Nat.ble l k = true) (hG : At G j "is_more") (ha : JA X Z Γ [e0, e1] [isPt u.K q, isPt u.K r]) (h1 : Md q) (h2 : Md r) (hs : starEach [e0, e1] X.env = (false, eval e0 X.env) :: starEach [e1] X.env) (hp : (backTo pos (starEach [e1] X.env)).any (·.1) = false) : J X Z Γ (.Call (.Name "is_more" p) [e0, e1] [] pos) (isB (decide (r < q))) :=
  j_call g F (Nat.le_of_ble_eq_true hl) (fun _ _ _ h => ⟨q, r, h1, h2, h⟩) ha (nm.gl hG) hs hp
example : True := by
  k_with "call" => ((with_reducible apply jc_is_more g nm c_is_more); (· exact rfl); (· k_extra "at"); (· k_extra "ja"); (· k_extra "side"); (· k_extra "side"); (· exact rfl); (· exact rfl))
  trivial
theorem c_is_more {u : Uni} (Df : Defd u "is_more" "is_more" (topS 17) []) : Callable u "is_more" 1 (sp_is_more u) [] := by
  refine fn_pure (k := 0) (ps := ["one", "other"]) Df S_is_more.scope (fun f fd F => ⟨[], F.bindsN (fun _ _ _ _ _ _ us hl => match us, hl with | [_, _], _ => rfl), .nil⟩) ?_ (fun _ _ _ _ h => h)
  rintro vs H Q ⟨q, r, h1, h2, h⟩
  refine ⟨_, _, rfl, h, fun X Z hM g hf => ?_⟩
  have S := S_is_more
  have nm := S.nm
  k_extra "ret"
  exact congrArg isB (decide_eq_decide.mpr (Rat.lt_iff _ _).symm)
theorem S_lesser : FnS ["one", "other"] ["one", "other"] ["one", "other"] ["is_more"] (defScope (topS 18)) := ⟨by decide +kernel⟩
def sp_lesser (u : Uni) : Sp := fun vs H Q _ => ∃ (q r : Rat), (Md q) ∧ (Md r) ∧ Pf [isPt u.K q, isPt u.K r] (isPt u.K (min q r)) vs H Q
theorem jc_lesser {u : Uni} {N V G : List Str} {sc : Scope} {k l j : Nat} {X : Cx} {Z : Zn} {Γ : List Ty} {e0 e1 : Expr} {pos p : Pos} {q r : Rat} (g : Good u N sc k X) (nm : Nm sc V G) (F : Callable u "lesser" l (sp_lesser u) []) (hl : Nat.ble l k = true) (hG : At G j "lesser") (ha : JA X Z Γ [e0, e1] [isPt u.K q, isPt u.K r]) (h1 : Md q) (h2 : Md r) (hs : starEach [e0, e1] X.env = (false, eval e0 X.env) :: starEach [e1] X.env) (hp : (backTo pos (starEach [e1] X.env)).any (·.1) = false) : J X Z Γ (.Call (.Name "lesser" p) [e0, e1] [] pos) (isPt u.K (min q r)) :=
  j_call g F (Nat.le_of_ble_eq_true hl) (fun _ _ _ h => ⟨q, r, h1, h2, h⟩) ha (nm.gl hG) hs hp
example : True := by
  k_with "call" => ((with_reducible apply jc_lesser g nm c_lesser); (· exact rfl); (· k_extra "at"); (· k_extra "ja"); (· k_extra "side"); (· k_extra "side"); (· exact rfl); (· exact rfl))
  trivial
theorem c_lesser {u : Uni} (c_is_more : Callable u "is_more" 1 (sp_is_more u) []) (Df : Defd u "lesser" "lesser" (topS 18) []) : Callable u "lesser" 2 (sp_lesser u) [] := by
  refine fn_pure (k := 1) (ps := ["one", "other"]) Df S_lesser.scope (fun f fd F => ⟨[], F.bindsN (fun _ _ _ _ _ _ us hl => match us, hl with | [_, _], _ => rfl), .nil⟩) ?_ (fun _ _ _ _ h => h)
  rintro vs H Q ⟨q, r, h1, h2, h⟩
  refine ⟨_, _, rfl, h, fun X Z hM g hf => ?_⟩
  have S := S_lesser
  have nm := S.nm
  k_extra "if"
  · intro e
    have e := of_decide_eq_true e
    k_extra "retB"
    rw [Rat.min_def, if_neg (by grind)]
  · intro e
    have e := of_decide_eq_false e
    refine tr_end ?_
    k_extra "ret"
    rw [Rat.min_def, if_pos (by grind)]
theorem S_greater : FnS ["one", "other"] ["one", "other"] ["one", "other"] ["is_more"] (defScope (topS 19)) := ⟨by decide +kernel⟩
def sp_greater (u : Uni) : Sp := fun vs H Q _ => ∃ (q r : Rat), (Md q) ∧ (Md r) ∧ Pf [isPt u.K q, isPt u.K r] (isPt u.K (max q r)) vs H Q
theorem jc_greater {u : Uni} {N V G : List Str} {sc : Scope} {k l j : Nat} {X : Cx} {Z : Zn} {Γ : List Ty} {e0 e1 : Expr} {pos p : Pos} {q r : Rat} (g : Good u N sc k X) (nm : Nm sc V G) (F : Callable u "greater" l (sp_greater u) []) (hl : Nat.ble l k = true) (hG : At G j "greater") (ha : JA X Z Γ [e0, e1] [isPt u.K q, isPt u.K r]) (h1 : Md q) (h2 : Md r) (hs : starEach [e0, e1] X.env = (false, eval e0 X.env) :: starEach [e1] X.env) (hp : (backTo pos (starEach [e1] X.env)).any (·.1) = false) : J X Z Γ (.Call (.Name "greater" p) [e0, e1] [] pos) (isPt u.K (max q r)) :=
  j_call g F (Nat.le_of_ble_eq_true hl) (fun _ _ _ h => ⟨q, r, h1, h2, h⟩) ha (nm.gl hG) hs hp
example : True := by
  k_with "call" => ((with_reducible apply jc_greater g nm c_greater); (· exact rfl); (· k_extra "at"); (· k_extra "ja"); (· k_extra "side"); (· k_extra "side"); (· exact rfl); (· exact rfl))
  trivial
theorem c_greater {u : Uni} (c_is_more : Callable u "is_more" 1 (sp_is_more u) []) (Df : Defd u "greater" "greater" (topS 19) []) : Callable u "greater" 2 (sp_greater u) [] := by
  refine fn_pure (k := 1) (ps := ["one", "other"]) Df S_greater.scope (fun f fd F => ⟨[], F.bindsN (fun _ _ _ _ _ _ us hl => match us, hl with | [_, _], _ => rfl), .nil⟩) ?_ (fun _ _ _ _ h => h)
  rintro vs H Q ⟨q, r, h1, h2, h⟩
  refine ⟨_, _, rfl, h, fun X Z hM g hf => ?_⟩
  have S := S_greater
  have nm := S.nm
  k_extra "if"
  · intro e
    have e := of_decide_eq_true e
    k_extra "retB"
    rw [Rat.max_def, if_neg (by grind)]
  · intro e
    have e := of_decide_eq_false e
    refine tr_end ?_
    k_extra "ret"
    rw [Rat.max_def, if_pos (by grind)]
theorem S_is_whole : FnS ["thing"] ["thing"] ["thing"] ["isinstance", "int", "bool"] (defScope (topS 10)) := ⟨by decide +kernel⟩
def sp_is_whole (u : Uni) : Sp := fun vs H Q _ => ∃ (n : Int), Pf [isI n] (isB true) vs H Q
theorem jc_is_whole {u : Uni} {N V G : List Str} {sc : Scope} {k l j : Nat} {X : Cx} {Z : Zn} {Γ : List Ty} {e0 : Expr} {pos p : Pos} {n : Int} (g : Good u N sc k X) (nm : Nm sc V G) (F : Callable u "is_whole" l (sp_is_whole u) []) (hl : Nat.ble l k = true) (hG : At G j "is_whole") (ha : JA X Z Γ [e0] [isI n])  (hs : starEach [e0] X.env = (false, eval e0 X.env) :: starEach [] X.env) (hp : (backTo pos (starEach [] X.env)).any (·.1) = false) : J X Z Γ (.Call (.Name "is_whole" p) [e0] [] pos) (isB true) :=
  j_call g F (Nat.le_of_ble_eq_true hl) (fun _ _ _ h => ⟨n, h⟩) ha (nm.gl hG) hs hp
example : True := by
  k_with "call" => ((with_reducible apply jc_is_whole g nm c_is_whole); (· exact rfl); (· k_extra "at"); (· k_extra "ja"); (· exact rfl); (· exact rfl))
  trivial
theorem c_is_whole {u : Uni} (bt : Bts u) (Df : Defd u "is_whole" "is_whole" (topS 10) []) : Callable u "is_whole" 1 (sp_is_whole u) [] := by
  refine fn_pure (k := 0) (ps := ["thing"]) Df S_is_whole.scope (fun f fd F => ⟨[], F.bindsN (fun _ _ _ _ _ _ us hl => match us, hl with | [_], _ => rfl), .nil⟩) ?_ (fun _ _ _ _ h => h)
  rintro vs H Q ⟨n, h⟩
  refine ⟨_, _, rfl, h, fun X Z hM g hf => ?_⟩
  have S := S_is_whole
  have nm := S.nm
  k_extra "ret"
  rfl
theorem S_is_part : FnS ["thing"] ["thing"] ["thing"] ["isinstance", "tuple", "len", "is_whole", "common_divisor", "abs"] (defScope (topS 11)) := ⟨by decide +kernel⟩
def sp_is_part (u : Uni) : Sp := fun vs H Q _ => ∃ (q : Rat), (Md q) ∧ Pf [isPt u.K q] (isB true) vs H Q
theorem jc_is_part {u : Uni} {N V G : List Str} {sc : Scope} {k l j : Nat} {X : Cx} {Z : Zn} {Γ : List Ty} {e0 : Expr} {pos p : Pos} {q : Rat} (g : Good u N sc k X) (nm : Nm sc V G) (F : Callable u "is_part" l (sp_is_part u) []) (hl : Nat.ble l k = true) (hG : At G j "is_part") (ha : JA X Z Γ [e0] [isPt u.K q]) (h1 : Md q) (hs : starEach [e0] X.env = (false, eval e0 X.env) :: starEach [] X.env) (hp : (backTo pos (starEach [] X.env)).any (·.1) = false) : J X Z Γ (.Call (.Name "is_part" p) [e0] [] pos) (isB true) :=
  j_call g F (Nat.le_of_ble_eq_true hl) (fun _ _ _ h => ⟨q, h1, h⟩) ha (nm.gl hG) hs hp
example : True := by
  k_with "call" => ((with_reducible apply jc_is_part g nm c_is_part); (· exact rfl); (· k_extra "at"); (· k_extra "ja"); (· k_extra "side"); (· exact rfl); (· exact rfl))
  trivial
theorem c_is_part {u : Uni} (bt : Bts u) (c_is_whole : Callable u "is_whole" 1 (sp_is_whole u) []) (c_common_divisor : Callable u "common_divisor" 1 (sp_common_divisor u) []) (Df : Defd u "is_part" "is_part" (topS 11) []) : Callable u "is_part" 2 (sp_is_part u) [] := by
  refine fn_pure (k := 1) (ps := ["thing"]) Df S_is_part.scope (fun f fd F => ⟨[], F.bindsN (fun _ _ _ _ _ _ us hl => match us, hl with | [_], _ => rfl), .nil⟩) ?_ (fun _ _ _ _ h => h)
  rintro vs H Q ⟨q, h1, h⟩
  refine ⟨_, _, rfl, h, fun X Z hM g hf => ?_⟩
  have S := S_is_part
  have nm := S.nm
  k_extra "skip"
  k_extra "ret"
  have h : Nat.gcd q.num.natAbs q.den = 1 := q.reduced
  have hd := q.den_pos
  refine congrArg isB ?_
  rw [h]
  simp
  omega
theorem dd_nat (q r : Rat) : ((q.den : Int) * r.den).toNat = q.den * r.den := by rw [← Int.natCast_mul, Int.toNat_natCast]
theorem mk_add (q r : Rat) : mkRat (q.num * r.den + r.num * q.den) ((q.den : Int) * r.den).toNat = q + r := by rw [dd_nat, Rat.add_def']
theorem mk_sub (q r : Rat) : mkRat (q.num * r.den - r.num * q.den) ((q.den : Int) * r.den).toNat = q - r := by rw [dd_nat, Rat.sub_def']
theorem mk_mul (q r : Rat) : mkRat (q.num * r.num) ((q.den : Int) * r.den).toNat = q * r := by rw [dd_nat, Rat.mul_def']
theorem rat_num_pos {r : Rat} (h : 0 < r) : 0 < r.num := by
  have h1 := (Rat.lt_iff 0 r).mp h
  simpa using h1
theorem mk_div (q r : Rat) (h : 0 < r) : mkRat (q.num * r.den) ((q.den : Int) * r.num).toNat = q / r := by
  have h1 : 0 < r.num := rat_num_pos h
  obtain ⟨n, hn⟩ := Int.eq_ofNat_of_zero_le (Int.le_of_lt h1)
  have e : ((q.den : Int) * r.num).toNat = q.den * n := by rw [hn, ← Int.natCast_mul, Int.toNat_natCast]
  have e2 : q / r = Rat.divInt (q.num * r.den) ((q.den : Int) * r.num) := by
    rw [Rat.div_def, Rat.inv_def]
    conv => lhs; rw [← Rat.num_divInt_den q]
    rw [Rat.divInt_mul_divInt]
  rw [e2, hn, ← Int.natCast_mul, Rat.divInt_ofNat, Int.toNat_natCast]
theorem dd_pos (q r : Rat) : (0 : Int) < (q.den : Int) * r.den := Int.mul_pos (by have := q.den_pos; omega) (by have := r.den_pos; omega)
theorem dd_lt {q r : Rat} (h : Md q) (h2 : Md r) : ((q.den : Int) * r.den).natAbs < 2 ^ 8000 := by
  rw [Int.natAbs_mul, Int.natAbs_natCast, Int.natAbs_natCast]
  exact Nat.lt_of_lt_of_le (Nat.mul_lt_mul'' h.2 h2.2) (by rw [← Nat.pow_add]; exact Nat.pow_le_pow_right (by decide) (by decide))
theorem dn_lt {q r : Rat} (h : Md q) (h2 : Md r) : ((q.den : Int) * r.num).natAbs < 2 ^ 8000 := by
  rw [Int.natAbs_mul, Int.natAbs_natCast]
  exact Nat.lt_of_lt_of_le (Nat.mul_lt_mul'' h.2 h2.1) (by rw [← Nat.pow_add]; exact Nat.pow_le_pow_right (by decide) (by decide))
theorem S_added : FnS ["one", "other"] ["one", "other"] ["one", "other"] ["part_of"] (defScope (topS 13)) := ⟨by decide +kernel⟩
def sp_added (u : Uni) : Sp := fun vs H Q _ => ∃ (q r : Rat), (Md q) ∧ (Md r) ∧ Pf [isPt u.K q, isPt u.K r] (isPt u.K (q + r)) vs H Q
theorem jc_added {u : Uni} {N V G : List Str} {sc : Scope} {k l j : Nat} {X : Cx} {Z : Zn} {Γ : List Ty} {e0 e1 : Expr} {pos p : Pos} {q r : Rat} (g : Good u N sc k X) (nm : Nm sc V G) (F : Callable u "added" l (sp_added u) []) (hl : Nat.ble l k = true) (hG : At G j "added") (ha : JA X Z Γ [e0, e1] [isPt u.K q, isPt u.K r]) (h1 : Md q) (h2 : Md r) (hs : starEach [e0, e1] X.env = (false, eval e0 X.env) :: starEach [e1] X.env) (hp : (backTo pos (starEach [e1] X.env)).any (·.1) = false) : J X Z Γ (.Call (.Name "added" p) [e0, e1] [] pos) (isPt u.K (q + r)) :=
  j_call g F (Nat.le_of_ble_eq_true hl) (fun _ _ _ h => ⟨q, r, h1, h2, h⟩) ha (nm.gl hG) hs hp
example : True := by
  k_with "call" => ((with_reducible apply jc_added g nm c_added); (· exact rfl); (· k_extra "at"); (· k_extra "ja"); (· k_extra "side"); (· k_extra "side"); (· exact rfl); (· exact rfl))
  trivial
theorem c_added {u : Uni} (c_part_of : Callable u "part_of" 2 (sp_part_of u) []) (Df : Defd u "added" "added" (topS 13) []) : Callable u "added" 3 (sp_added u) [] := by
  refine fn_pure (k := 2) (ps := ["one", "other"]) Df S_added.scope (fun f fd F => ⟨[], F.bindsN (fun _ _ _ _ _ _ us hl => match us, hl with | [_, _], _ => rfl), .nil⟩) ?_ (fun _ _ _ _ h => h)
  rintro vs H Q ⟨q, r, h1, h2, h⟩
  refine ⟨_, _, rfl, h, fun X Z hM g hf => ?_⟩
  have S := S_added
  have nm := S.nm
  have h3 := dd_pos q r
  have h4 := dd_lt h1 h2
  k_extra "ret"
  rw [mk_add]
theorem S_less : FnS ["one", "other"] ["one", "other"] ["one", "other"] ["part_of"] (defScope (topS 14)) := ⟨by decide +kernel⟩
def sp_less (u : Uni) : Sp := fun vs H Q _ => ∃ (q r : Rat), (Md q) ∧ (Md r) ∧ Pf [isPt u.K q, isPt u.K r] (isPt u.K (q - r)) vs H Q
theorem jc_less {u : Uni} {N V G : List Str} {sc : Scope} {k l j : Nat} {X : Cx} {Z : Zn} {Γ : List Ty} {e0 e1 : Expr} {pos p : Pos} {q r : Rat} (g : Good u N sc k X) (nm : Nm sc V G) (F : Callable u "less" l (sp_less u) []) (hl : Nat.ble l k = true) (hG : At G j "less") (ha : JA X Z Γ [e0, e1] [isPt u.K q, isPt u.K r]) (h1 : Md q) (h2 : Md r) (hs : starEach [e0, e1] X.env = (false, eval e0 X.env) :: starEach [e1] X.env) (hp : (backTo pos (starEach [e1] X.env)).any (·.1) = false) : J X Z Γ (.Call (.Name "less" p) [e0, e1] [] pos) (isPt u.K (q - r)) :=
  j_call g F (Nat.le_of_ble_eq_true hl) (fun _ _ _ h => ⟨q, r, h1, h2, h⟩) ha (nm.gl hG) hs hp
example : True := by
  k_with "call" => ((with_reducible apply jc_less g nm c_less); (· exact rfl); (· k_extra "at"); (· k_extra "ja"); (· k_extra "side"); (· k_extra "side"); (· exact rfl); (· exact rfl))
  trivial
theorem c_less {u : Uni} (c_part_of : Callable u "part_of" 2 (sp_part_of u) []) (Df : Defd u "less" "less" (topS 14) []) : Callable u "less" 3 (sp_less u) [] := by
  refine fn_pure (k := 2) (ps := ["one", "other"]) Df S_less.scope (fun f fd F => ⟨[], F.bindsN (fun _ _ _ _ _ _ us hl => match us, hl with | [_, _], _ => rfl), .nil⟩) ?_ (fun _ _ _ _ h => h)
  rintro vs H Q ⟨q, r, h1, h2, h⟩
  refine ⟨_, _, rfl, h, fun X Z hM g hf => ?_⟩
  have S := S_less
  have nm := S.nm
  have h3 := dd_pos q r
  have h4 := dd_lt h1 h2
  k_extra "ret"
  rw [mk_sub]
theorem S_product : FnS ["one", "other"] ["one", "other"] ["one", "other"] ["part_of"] (defScope (topS 15)) := ⟨by decide +kernel⟩
def sp_product (u : Uni) : Sp := fun vs H Q _ => ∃ (q r : Rat), (Md q) ∧ (Md r) ∧ Pf [isPt u.K q, isPt u.K r] (isPt u.K (q * r)) vs H Q
theorem jc_product {u : Uni} {N V G : List Str} {sc : Scope} {k l j : Nat} {X : Cx} {Z : Zn} {Γ : List Ty} {e0 e1 : Expr} {pos p : Pos} {q r : Rat} (g : Good u N sc k X) (nm : Nm sc V G) (F : Callable u "product" l (sp_product u) []) (hl : Nat.ble l k = true) (hG : At G j "product") (ha : JA X Z Γ [e0, e1] [isPt u.K q, isPt u.K r]) (h1 : Md q) (h2 : Md r) (hs : starEach [e0, e1] X.env = (false, eval e0 X.env) :: starEach [e1] X.env) (hp : (backTo pos (starEach [e1] X.env)).any (·.1) = false) : J X Z Γ (.Call (.Name "product" p) [e0, e1] [] pos) (isPt u.K (q * r)) :=
  j_call g F (Nat.le_of_ble_eq_true hl) (fun _ _ _ h => ⟨q, r, h1, h2, h⟩) ha (nm.gl hG) hs hp
example : True := by
  k_with "call" => ((with_reducible apply jc_product g nm c_product); (· exact rfl); (· k_extra "at"); (· k_extra "ja"); (· k_extra "side"); (· k_extra "side"); (· exact rfl); (· exact rfl))
  trivial
theorem c_product {u : Uni} (c_part_of : Callable u "part_of" 2 (sp_part_of u) []) (Df : Defd u "product" "product" (topS 15) []) : Callable u "product" 3 (sp_product u) [] := by
  refine fn_pure (k := 2) (ps := ["one", "other"]) Df S_product.scope (fun f fd F => ⟨[], F.bindsN (fun _ _ _ _ _ _ us hl => match us, hl with | [_, _], _ => rfl), .nil⟩) ?_ (fun _ _ _ _ h => h)
  rintro vs H Q ⟨q, r, h1, h2, h⟩
  refine ⟨_, _, rfl, h, fun X Z hM g hf => ?_⟩
  have S := S_product
  have nm := S.nm
  have h3 := dd_pos q r
  have h4 := dd_lt h1 h2
  k_extra "ret"
  rw [mk_mul]
theorem S_quotient : FnS ["one", "other"] ["one", "other"] ["one", "other"] ["part_of"] (defScope (topS 16)) := ⟨by decide +kernel⟩
def sp_quotient (u : Uni) : Sp := fun vs H Q _ => ∃ (q r : Rat), (Md q) ∧ (Md r) ∧ (0 < r) ∧ Pf [isPt u.K q, isPt u.K r] (isPt u.K (q / r)) vs H Q
theorem jc_quotient {u : Uni} {N V G : List Str} {sc : Scope} {k l j : Nat} {X : Cx} {Z : Zn} {Γ : List Ty} {e0 e1 : Expr} {pos p : Pos} {q r : Rat} (g : Good u N sc k X) (nm : Nm sc V G) (F : Callable u "quotient" l (sp_quotient u) []) (hl : Nat.ble l k = true) (hG : At G j "quotient") (ha : JA X Z Γ [e0, e1] [isPt u.K q, isPt u.K r]) (h1 : Md q) (h2 : Md r) (h3 : 0 < r) (hs : starEach [e0, e1] X.env = (false, eval e0 X.env) :: starEach [e1] X.env) (hp : (backTo pos (starEach [e1] X.env)).any (·.1) = false) : J X Z Γ (.Call (.Name "quotient" p) [e0, e1] [] pos) (isPt u.K (q / r)) :=
  j_call g F (Nat.le_of_ble_eq_true hl) (fun _ _ _ h => ⟨q, r, h1, h2, h3, h⟩) ha (nm.gl hG) hs hp
example : True := by
  k_with "call" => ((with_reducible apply jc_quotient g nm c_quotient); (· exact rfl); (· k_extra "at"); (· k_extra "ja"); (· k_extra "side"); (· k_extra "side"); (· k_extra "side"); (· exact rfl); (· exact rfl))
  trivial
theorem c_quotient {u : Uni} (c_part_of : Callable u "part_of" 2 (sp_part_of u) []) (Df : Defd u "quotient" "quotient" (topS 16) []) : Callable u "quotient" 3 (sp_quotient u) [] := by
  refine fn_pure (k := 2) (ps := ["one", "other"]) Df S_quotient.scope (fun f fd F => ⟨[], F.bindsN (fun _ _ _ _ _ _ us hl => match us, hl with | [_, _], _ => rfl), .nil⟩) ?_ (fun _ _ _ _ h => h)
  rintro vs H Q ⟨q, r, h1, h2, h3, h⟩
  refine ⟨_, _, rfl, h, fun X Z hM g hf => ?_⟩
  have S := S_quotient
  have nm := S.nm
  have h5 := rat_num_pos h3
  have h6 : (0 : Int) < (q.den : Int) * r.num := Int.mul_pos (by have := q.den_pos; omega) h5
  have h7 := dn_lt h1 h2
  k_extra "ret"
  rw [mk_div q r h3]

end Wd

end

section
set_option maxRecDepth 100000
set_option maxHeartbeats 4000000
namespace Wd
open PySem PySem.Spec L2
/-! ### layouts -/
/-- small enough for all that is reckoned -/
def Sm (q : Rat) : Prop := q.num.natAbs < 2 ^ 1800 ∧ q.den < 2 ^ 900
theorem Sm.md {q : Rat} (h : Sm q) : Md q := ⟨Nat.lt_of_lt_of_le h.1 (Nat.pow_le_pow_right (by decide) (by decide)), Nat.lt_of_lt_of_le h.2 (Nat.pow_le_pow_right (by decide) (by decide))⟩
theorem md_mk {n : Int} {d : Nat} (h1 : 0 < d) (h2 : n.natAbs < 2 ^ 4000) (h3 : d < 2 ^ 2000) : Md (mkRat n d) := by
  refine ⟨?_, ?_⟩
  · rw [Rat.num_mkRat, if_neg (by omega)]
    exact Nat.lt_of_le_of_lt (Int.natAbs_ediv_le_natAbs _ _) h2
  · rw [Rat.den_mkRat, if_neg (by omega)]
    exact Nat.lt_of_le_of_lt (Nat.div_le_self _ _) h3
theorem nat_pow_le {a b : Nat} (h : a ≤ b) : 2 ^ a ≤ 2 ^ b := Nat.pow_le_pow_right (by decide) h
theorem Sm.add {q r : Rat} (h : Sm q) (h2 : Sm r) : Md (q + r) := by
  rw [Rat.add_def']
  have e1 : q.num.natAbs * r.den < 2 ^ 2700 := by
    rw [show (2700 : Nat) = 1800 + 900 from rfl, Nat.pow_add]; exact Nat.mul_lt_mul'' h.1 h2.2
  have e2 : r.num.natAbs * q.den < 2 ^ 2700 := by
    rw [show (2700 : Nat) = 1800 + 900 from rfl, Nat.pow_add]; exact Nat.mul_lt_mul'' h2.1 h.2
  refine md_mk (Nat.mul_pos q.den_pos r.den_pos) ?_ ?_
  · have e3 : (q.num * (r.den : Int) + r.num * (q.den : Int)).natAbs ≤ q.num.natAbs * r.den + r.num.natAbs * q.den := by
      refine Nat.le_trans (Int.natAbs_add_le _ _) ?_
      rw [Int.natAbs_mul, Int.natAbs_mul, Int.natAbs_natCast, Int.natAbs_natCast]
      exact Nat.le_refl _
    have e4 : 2 ^ 2700 + 2 ^ 2700 = 2 ^ 2701 := by rw [show (2701 : Nat) = 2700 + 1 from rfl, Nat.pow_succ 2 2700, Nat.mul_two]
    have e5 := nat_pow_le (show 2701 ≤ 4000 by decide)
    exact Nat.lt_of_le_of_lt e3 (Nat.lt_of_lt_of_le (Nat.add_lt_add e1 e2) (e4 ▸ e5))
  · have e6 : q.den * r.den < 2 ^ 1800 := by
      rw [show (1800 : Nat) = 900 + 900 from rfl, Nat.pow_add]; exact Nat.mul_lt_mul'' h.2 h2.2
    exact Nat.lt_of_lt_of_le e6 (nat_pow_le (by decide))
theorem md_min {q r : Rat} (h : Md q) (h2 : Md r) : Md (min q r) := by rw [Rat.min_def]; split <;> assumption
theorem md_max {q r : Rat} (h : Md q) (h2 : Md r) : Md (max q r) := by rw [Rat.max_def]; split <;> assumption
example : True := by
  k_with "side" => ((with_reducible apply Sm.md); (· with_reducible assumption))
  k_with "side" => ((with_reducible apply Sm.add); (· with_reducible assumption); (· with_reducible assumption))
  k_with "side" => ((with_reducible apply md_min); (· k_extra "side"); (· k_extra "side"))
  k_with "side" => ((with_reducible apply md_max); (· k_extra "side"); (· k_extra "side"))
  trivial
/-- a box's place -/
structure Rw where
  name : Str
  x : Rat
  y : Rat
  w : Rat
  h : Rat
def isRw (K : PySem.W.Frag) (r : Rw) : Pr := isT K [isS r.name, isPt K r.x, isPt K r.y, isPt K r.w, isPt K r.h]
theorem tup_Rw {K : PySem.W.Frag} {r : Rw} : TupP K (isRw K r) [isS r.name, isPt K r.x, isPt K r.y, isPt K r.w, isPt K r.h] := fun _ _ h => h
example : True := by
  k_with "tup" => with_reducible exact tup_Rw
  trivial
structure SmR (r : Rw) : Prop where
  x : Sm r.x
  y : Sm r.y
  w : Sm r.w
  h : Sm r.h
  nm : PyData.strOk r.name = true
def within (l n p : Rat) : Bool := !decide (p < l) && decide (p < l + n)
theorem S_is_within : FnS ["low", "length", "point"] ["low", "length", "point"] ["low", "length", "point"] ["is_more", "added"] (defScope (topS 22)) := ⟨by decide +kernel⟩
def sp_is_within (u : Uni) : Sp := fun vs H Q _ => ∃ (a b c : Rat), (Sm a) ∧ (Sm b) ∧ (Sm c) ∧ Pf [isPt u.K a, isPt u.K b, isPt u.K c] (isB (within a b c)) vs H Q
theorem jc_is_within {u : Uni} {N V G : List Str} {sc : Scope} {k l j : Nat} {X : Cx} {Z : Zn} {Γ : List Ty} {e0 e1 e2 : Expr} {pos p : Pos} {a b c : Rat} (g : Good u N sc k X) (nm : Nm sc V G) (F : Callable u "is_within" l (sp_is_within u) []) (hl : Nat.ble l k = true) (hG : At G j "is_within") (ha : JA X Z Γ [e0, e1, e2] [isPt u.K a, isPt u.K b, isPt u.K c]) (h1 : Sm a) (h2 : Sm b) (h3 : Sm c) (hs : starEach [e0, e1, e2] X.env = (false, eval e0 X.env) :: starEach [e1, e2] X.env) (hp : (backTo pos (starEach [e1, e2] X.env)).any (·.1) = false) : J X Z Γ (.Call (.Name "is_within" p) [e0, e1, e2] [] pos) (isB (within a b c)) :=
  j_call g F (Nat.le_of_ble_eq_true hl) (fun _ _ _ h => ⟨a, b, c, h1, h2, h3, h⟩) ha (nm.gl hG) hs hp
example : True := by
  k_with "call" => ((with_reducible apply jc_is_within g nm c_is_within); (· exact rfl); (· k_extra "at"); (· k_extra "ja"); (· k_extra "side"); (· k_extra "side"); (· k_extra "side"); (· exact rfl); (· exact rfl))
  trivial
theorem c_is_within {u : Uni} (c_is_more : Callable u "is_more" 1 (sp_is_more u) []) (c_added : Callable u "added" 3 (sp_added u) []) (Df : Defd u "is_within" "is_within" (topS 22) []) : Callable u "is_within" 4 (sp_is_within u) [] := by
  refine fn_pure (k := 3) (ps := ["low", "length", "point"]) Df S_is_within.scope (fun f fd F => ⟨[], F.bindsN (fun _ _ _ _ _ _ us hl => match us, hl with | [_, _, _], _ => rfl), .nil⟩) ?_ (fun _ _ _ _ h => h)
  rintro vs H Q ⟨a, b, c, h1, h2, h3, h⟩
  refine ⟨_, _, rfl, h, fun X Z hM g hf => ?_⟩
  have S := S_is_within
  have nm := S.nm
  k_extra "ret"
  rfl
def hasPt (x y : Rat) (r : Rw) : Bool := within r.x r.w x && within r.y r.h y
theorem getElem_map {α β : Type} {f : α → β} {l : List α} {i : Nat} {y : β} (h : (l.map f)[i]? = some y) : ∃ x, l[i]? = some x ∧ y = f x := by
  rw [List.getElem?_map] at h
  cases e : l[i]? with
  | none => rw [e] at h; cases h
  | some x => rw [e] at h; exact ⟨x, rfl, (Option.some.inj h).symm⟩
theorem take_succ_of {α : Type} {l : List α} {i : Nat} {x : α} (h : l[i]? = some x) : l.take (i + 1) = l.take i ++ [x] := by
  rw [List.take_add_one, h]; rfl
theorem filter_take {α : Type} {p : α → Bool} {l : List α} {i : Nat} {x : α} (h : l[i]? = some x) : (l.take (i + 1)).filter p = (l.take i).filter p ++ (if p x = true then [x] else []) := by
  rw [take_succ_of h, List.filter_append]
  congr 1
  by_cases e : p x = true
  · rw [List.filter_cons_of_pos e, if_pos e]; rfl
  · rw [List.filter_cons_of_neg e, if_neg e]; rfl
theorem S_at_point : FnS ["layout", "x", "y", "found", "name", "left", "upper", "wide", "tall"] ["layout", "x", "y"] ["layout", "x", "y", "found", "name", "left", "upper", "wide", "tall"] ["is_within"] (defScope (topS 23)) := ⟨by decide +kernel⟩
def sp_at_point (u : Uni) : Sp := fun vs H Q _ => ∃ (rows : List Rw) (x y : Rat), (∀ r ∈ rows, SmR r) ∧ (Sm x) ∧ (Sm y) ∧ (rows.length ≤ 1000) ∧ Pf [isL (rows.map (isRw u.K)), isPt u.K x, isPt u.K y] (isL (((rows.filter (hasPt x y)).map Rw.name).map isS)) vs H Q
theorem jc_at_point {u : Uni} {N V G : List Str} {sc : Scope} {k l j : Nat} {X : Cx} {Z : Zn} {Γ : List Ty} {e0 e1 e2 : Expr} {pos p : Pos} {rows : List Rw} {x y : Rat} (g : Good u N sc k X) (nm : Nm sc V G) (F : Callable u "at_point" l (sp_at_point u) []) (hl : Nat.ble l k = true) (hG : At G j "at_point") (ha : JA X Z Γ [e0, e1, e2] [isL (rows.map (isRw u.K)), isPt u.K x, isPt u.K y]) (h1 : ∀ r ∈ rows, SmR r) (h2 : Sm x) (h3 : Sm y) (h4 : rows.length ≤ 1000) (hs : starEach [e0, e1, e2] X.env = (false, eval e0 X.env) :: starEach [e1, e2] X.env) (hp : (backTo pos (starEach [e1, e2] X.env)).any (·.1) = false) : J X Z Γ (.Call (.Name "at_point" p) [e0, e1, e2] [] pos) (isL (((rows.filter (hasPt x y)).map Rw.name).map isS)) :=
  j_call g F (Nat.le_of_ble_eq_true hl) (fun _ _ _ h => ⟨rows, x, y, h1, h2, h3, h4, h⟩) ha (nm.gl hG) hs hp
example : True := by
  k_with "call" => ((with_reducible apply jc_at_point g nm c_at_point); (· exact rfl); (· k_extra "at"); (· k_extra "ja"); (· k_extra "side"); (· k_extra "side"); (· k_extra "side"); (· k_extra "side"); (· exact rfl); (· exact rfl))
  trivial
theorem c_at_point {u : Uni} (c_is_within : Callable u "is_within" 4 (sp_is_within u) []) (Df : Defd u "at_point" "at_point" (topS 23) []) : Callable u "at_point" 5 (sp_at_point u) [] := by
  refine fn_pure (k := 4) (ps := ["layout", "x", "y"]) Df S_at_point.scope (fun f fd F => ⟨[], F.bindsN (fun _ _ _ _ _ _ us hl => match us, hl with | [_, _, _], _ => rfl), .nil⟩) ?_ (fun _ _ _ _ h => h)
  rintro vs H Q ⟨rows, x, y, h1, h2, h3, h4, h⟩
  refine ⟨_, _, rfl, h, fun X Z hM g hf => ?_⟩
  have S := S_at_point
  have nm := S.nm
  k_extra "letN"
  refine tr_forD g (Ps := rows.map (isRw u.K)) (by k_extra "ji") (fun i (a : List Str) => [.val (isL (rows.map (isRw u.K))), .val (isPt u.K x), .val (isPt u.K y), .own true (ownL (a.map isS)), .any, .any, .any, .any, .any])
    (fun i a => a = ((rows.take i).filter (hasPt x y)).map Rw.name) [] rfl (by k_extra "sub") ?_ ?_
  · rintro i P a G hP rfl
    obtain ⟨r, hr, rfl⟩ := getElem_map hP
    have hm := h1 r (List.mem_of_getElem? hr)
    have m1 := hm.x
    have m2 := hm.y
    have m3 := hm.w
    have m4 := hm.h
    have len : (List.map isS (List.map Rw.name (List.filter (hasPt x y) (List.take i rows)))).length ≤ 1000 := by
      have := List.length_filter_le (hasPt x y) (rows.take i)
      rw [List.length_take] at this
      rw [List.length_map, List.length_map]
      omega
    refine ⟨_, by k_extra "jg", ?_⟩
    k_extra "if"
    · intro e
      k_extra "append"
      refine tr_end (tr_turnD _ rfl rfl ?_)
      rw [filter_take hr, if_pos (show hasPt x y r = true from e), List.map_append, List.map_append]
      k_extra "sub"
    · intro e
      refine tr_end (tr_turnD _ rfl rfl ?_)
      have ef : List.filter (hasPt x y) (rows.take (i + 1)) = List.filter (hasPt x y) (rows.take i) := by rw [filter_take hr, if_neg (by rw [show hasPt x y r = false from e]; decide), List.append_nil]
      rw [ef]
      k_extra "sub"
  · rintro a rfl
    refine tr_frz 3 rfl own_L ?_
    k_extra "ret"
    rw [List.length_map, List.take_length]

theorem S_innermost : FnS ["layout", "x", "y", "found"] ["layout", "x", "y"] ["layout", "x", "y", "found"] ["at_point"] (defScope (topS 24)) := ⟨by decide +kernel⟩
def sp_innermost (u : Uni) : Sp := fun vs H Q _ => ∃ (rows : List Rw) (x y : Rat), (∀ r ∈ rows, SmR r) ∧ (Sm x) ∧ (Sm y) ∧ (rows.length ≤ 1000) ∧ Pf [isL (rows.map (isRw u.K)), isPt u.K x, isPt u.K y] (isV (match ((rows.filter (hasPt x y)).map Rw.name).getLast? with | some s => .str s | none => .non)) vs H Q
theorem jc_innermost {u : Uni} {N V G : List Str} {sc : Scope} {k l j : Nat} {X : Cx} {Z : Zn} {Γ : List Ty} {e0 e1 e2 : Expr} {pos p : Pos} {rows : List Rw} {x y : Rat} (g : Good u N sc k X) (nm : Nm sc V G) (F : Callable u "innermost" l (sp_innermost u) []) (hl : Nat.ble l k = true) (hG : At G j "innermost") (ha : JA X Z Γ [e0, e1, e2] [isL (rows.map (isRw u.K)), isPt u.K x, isPt u.K y]) (h1 : ∀ r ∈ rows, SmR r) (h2 : Sm x) (h3 : Sm y) (h4 : rows.length ≤ 1000) (hs : starEach [e0, e1, e2] X.env = (false, eval e0 X.env) :: starEach [e1, e2] X.env) (hp : (backTo pos (starEach [e1, e2] X.env)).any (·.1) = false) : J X Z Γ (.Call (.Name "innermost" p) [e0, e1, e2] [] pos) (isV (match ((rows.filter (hasPt x y)).map Rw.name).getLast? with | some s => .str s | none => .non)) :=
  j_call g F (Nat.le_of_ble_eq_true hl) (fun _ _ _ h => ⟨rows, x, y, h1, h2, h3, h4, h⟩) ha (nm.gl hG) hs hp
example : True := by
  k_with "call" => ((with_reducible apply jc_innermost g nm c_innermost); (· exact rfl); (· k_extra "at"); (· k_extra "ja"); (· k_extra "side"); (· k_extra "side"); (· k_extra "side"); (· k_extra "side"); (· exact rfl); (· exact rfl))
  trivial
theorem c_innermost {u : Uni} (c_at_point : Callable u "at_point" 5 (sp_at_point u) []) (Df : Defd u "innermost" "innermost" (topS 24) []) : Callable u "innermost" 6 (sp_innermost u) [] := by
  refine fn_pure (k := 5) (ps := ["layout", "x", "y"]) Df S_innermost.scope (fun f fd F => ⟨[], F.bindsN (fun _ _ _ _ _ _ us hl => match us, hl with | [_, _, _], _ => rfl), .nil⟩) ?_ (fun _ _ _ _ h => h)
  rintro vs H Q ⟨rows, x, y, h1, h2, h3, h4, h⟩
  refine ⟨_, _, rfl, h, fun X Z hM g hf => ?_⟩
  have S := S_innermost
  have nm := S.nm
  k_extra "let"
  have nil : CmpR X .Eq (isL (((rows.filter (hasPt x y)).map Rw.name).map isS)) (isL []) (((rows.filter (hasPt x y)).map Rw.name).isEmpty) := by
    have z := cmp_eqNil g (dat_strs (K := u.K) ((rows.filter (hasPt x y)).map Rw.name)) (shp_strs fun s hs => by
      obtain ⟨r, hr, rfl⟩ := List.mem_map.mp hs
      exact (h1 r (List.mem_filter.mp hr).1).nm) (by decide)
    rw [List.isEmpty_map] at z
    exact z
  k_extra "if"
  · intro e
    k_extra "retB"
    rw [List.isEmpty_iff.mp e]; rfl
  · intro e
    refine tr_end ?_
    obtain ⟨l, s, hl⟩ : ∃ l s, (rows.filter (hasPt x y)).map Rw.name = l ++ [s] := by
      rcases List.eq_nil_or_concat ((rows.filter (hasPt x y)).map Rw.name) with z | ⟨l, s, z⟩
      · rw [z] at e; cases e
      · exact ⟨l, s, by rw [z]; rw [List.concat_eq_append]⟩
    rw [hl]
    have at1 : atI (List.map isS (l ++ [s])) (-1) = some (isS s) := by rw [List.map_append]; exact atI_last _ _
    k_extra "ret"
    rw [List.getLast?_concat]
def common (a b c d : Rat) : Bool := decide (max a c < min (a + b) (c + d))
theorem S_have_common : FnS ["low", "length", "other", "other_length", "high"] ["low", "length", "other", "other_length"] ["low", "length", "other", "other_length", "high"] ["lesser", "added", "is_more", "greater"] (defScope (topS 25)) := ⟨by decide +kernel⟩
def sp_have_common (u : Uni) : Sp := fun vs H Q _ => ∃ (a b c d : Rat), (Sm a) ∧ (Sm b) ∧ (Sm c) ∧ (Sm d) ∧ Pf [isPt u.K a, isPt u.K b, isPt u.K c, isPt u.K d] (isB (common a b c d)) vs H Q
theorem jc_have_common {u : Uni} {N V G : List Str} {sc : Scope} {k l j : Nat} {X : Cx} {Z : Zn} {Γ : List Ty} {e0 e1 e2 e3 : Expr} {pos p : Pos} {a b c d : Rat} (g : Good u N sc k X) (nm : Nm sc V G) (F : Callable u "have_common" l (sp_have_common u) []) (hl : Nat.ble l k = true) (hG : At G j "have_common") (ha : JA X Z Γ [e0, e1, e2, e3] [isPt u.K a, isPt u.K b, isPt u.K c, isPt u.K d]) (h1 : Sm a) (h2 : Sm b) (h3 : Sm c) (h4 : Sm d) (hs : starEach [e0, e1, e2, e3] X.env = (false, eval e0 X.env) :: starEach [e1, e2, e3] X.env) (hp : (backTo pos (starEach [e1, e2, e3] X.env)).any (·.1) = false) : J X Z Γ (.Call (.Name "have_common" p) [e0, e1, e2, e3] [] pos) (isB (common a b c d)) :=
  j_call g F (Nat.le_of_ble_eq_true hl) (fun _ _ _ h => ⟨a, b, c, d, h1, h2, h3, h4, h⟩) ha (nm.gl hG) hs hp
example : True := by
  k_with "call" => ((with_reducible apply jc_have_common g nm c_have_common); (· exact rfl); (· k_extra "at"); (· k_extra "ja"); (· k_extra "side"); (· k_extra "side"); (· k_extra "side"); (· k_extra "side"); (· exact rfl); (· exact rfl))
  trivial
theorem c_have_common {u : Uni} (c_is_more : Callable u "is_more" 1 (sp_is_more u) []) (c_added : Callable u "added" 3 (sp_added u) []) (c_lesser : Callable u "lesser" 2 (sp_lesser u) []) (c_greater : Callable u "greater" 2 (sp_greater u) []) (Df : Defd u "have_common" "have_common" (topS 25) []) : Callable u "have_common" 4 (sp_have_common u) [] := by
  refine fn_pure (k := 3) (ps := ["low", "length", "other", "other_length"]) Df S_have_common.scope (fun f fd F => ⟨[], F.bindsN (fun _ _ _ _ _ _ us hl => match us, hl with | [_, _, _, _], _ => rfl), .nil⟩) ?_ (fun _ _ _ _ h => h)
  rintro vs H Q ⟨a, b, c, d, h1, h2, h3, h4, h⟩
  refine ⟨_, _, rfl, h, fun X Z hM g hf => ?_⟩
  have S := S_have_common
  have nm := S.nm
  k_extra "let"
  k_extra "ret"
  rfl
def crossRw (x y w h : Rat) (r : Rw) : Bool := common r.x r.w x w && common r.y r.h y h
theorem S_crossing : FnS ["layout", "x", "y", "wide", "tall", "found", "name", "left", "upper", "width", "height"] ["layout", "x", "y", "wide", "tall"] ["layout", "x", "y", "wide", "tall", "found", "name", "left", "upper", "width", "height"] ["have_common"] (defScope (topS 26)) := ⟨by decide +kernel⟩
def sp_crossing (u : Uni) : Sp := fun vs H Q _ => ∃ (rows : List Rw) (x y w t : Rat), (∀ r ∈ rows, SmR r) ∧ (Sm x) ∧ (Sm y) ∧ (Sm w) ∧ (Sm t) ∧ (rows.length ≤ 1000) ∧ Pf [isL (rows.map (isRw u.K)), isPt u.K x, isPt u.K y, isPt u.K w, isPt u.K t] (isL (((rows.filter (crossRw x y w t)).map Rw.name).map isS)) vs H Q
theorem jc_crossing {u : Uni} {N V G : List Str} {sc : Scope} {k l j : Nat} {X : Cx} {Z : Zn} {Γ : List Ty} {e0 e1 e2 e3 e4 : Expr} {pos p : Pos} {rows : List Rw} {x y w t : Rat} (g : Good u N sc k X) (nm : Nm sc V G) (F : Callable u "crossing" l (sp_crossing u) []) (hl : Nat.ble l k = true) (hG : At G j "crossing") (ha : JA X Z Γ [e0, e1, e2, e3, e4] [isL (rows.map (isRw u.K)), isPt u.K x, isPt u.K y, isPt u.K w, isPt u.K t]) (h1 : ∀ r ∈ rows, SmR r) (h2 : Sm x) (h3 : Sm y) (h4 : Sm w) (h5 : Sm t) (h6 : rows.length ≤ 1000) (hs : starEach [e0, e1, e2, e3, e4] X.env = (false, eval e0 X.env) :: starEach [e1, e2, e3, e4] X.env) (hp : (backTo pos (starEach [e1, e2, e3, e4] X.env)).any (·.1) = false) : J X Z Γ (.Call (.Name "crossing" p) [e0, e1, e2, e3, e4] [] pos) (isL (((rows.filter (crossRw x y w t)).map Rw.name).map isS)) :=
  j_call g F (Nat.le_of_ble_eq_true hl) (fun _ _ _ h => ⟨rows, x, y, w, t, h1, h2, h3, h4, h5, h6, h⟩) ha (nm.gl hG) hs hp
example : True := by
  k_with "call" => ((with_reducible apply jc_crossing g nm c_crossing); (· exact rfl); (· k_extra "at"); (· k_extra "ja"); (· k_extra "side"); (· k_extra "side"); (· k_extra "side"); (· k_extra "side"); (· k_extra "side"); (· k_extra "side"); (· exact rfl); (· exact rfl))
  trivial
theorem c_crossing {u : Uni} (c_have_common : Callable u "have_common" 4 (sp_have_common u) []) (Df : Defd u "crossing" "crossing" (topS 26) []) : Callable u "crossing" 5 (sp_crossing u) [] := by
  refine fn_pure (k := 4) (ps := ["layout", "x", "y", "wide", "tall"]) Df S_crossing.scope (fun f fd F => ⟨[], F.bindsN (fun _ _ _ _ _ _ us hl => match us, hl with | [_, _, _, _, _], _ => rfl), .nil⟩) ?_ (fun _ _ _ _ h => h)
  rintro vs H Q ⟨rows, x, y, w, t, h1, h2, h3, h4, h5, h6, h⟩
  refine ⟨_, _, rfl, h, fun X Z hM g hf => ?_⟩
  have S := S_crossing
  have nm := S.nm
  k_extra "letN"
  refine tr_forD g (Ps := rows.map (isRw u.K)) (by k_extra "ji") (fun i (a : List Str) => [.val (isL (rows.map (isRw u.K))), .val (isPt u.K x), .val (isPt u.K y), .val (isPt u.K w), .val (isPt u.K t), .own true (ownL (a.map isS)), .any, .any, .any, .any, .any])
    (fun i a => a = ((rows.take i).filter (crossRw x y w t)).map Rw.name) [] rfl (by k_extra "sub") ?_ ?_
  · rintro i P a G hP rfl
    obtain ⟨r, hr, rfl⟩ := getElem_map hP
    have hm := h1 r (List.mem_of_getElem? hr)
    have m1 := hm.x
    have m2 := hm.y
    have m3 := hm.w
    have m4 := hm.h
    have len : (List.map isS (List.map Rw.name (List.filter (crossRw x y w t) (List.take i rows)))).length ≤ 1000 := by
      have := List.length_filter_le (crossRw x y w t) (rows.take i)
      rw [List.length_take] at this
      rw [List.length_map, List.length_map]
      omega
    refine ⟨_, by k_extra "jg", ?_⟩
    k_extra "if"
    · intro e
      k_extra "append"
      refine tr_end (tr_turnD _ rfl rfl ?_)
      rw [filter_take hr, if_pos (show crossRw x y w t r = true from e), List.map_append, List.map_append]
      k_extra "sub"
    · intro e
      refine tr_end (tr_turnD _ rfl rfl ?_)
      have ef : List.filter (crossRw x y w t) (rows.take (i + 1)) = List.filter (crossRw x y w t) (rows.take i) := by rw [filter_take hr, if_neg (by rw [show crossRw x y w t r = false from e]; decide), List.append_nil]
      rw [ef]
      k_extra "sub"
  · rintro a rfl
    refine tr_frz 5 rfl own_L ?_
    k_extra "ret"
    rw [List.length_map, List.take_length]
theorem S_place_of : FnS ["layout", "name", "place"] ["layout", "name"] ["layout", "name", "place"] ["NoName"] (defScope (topS 27)) := ⟨by decide +kernel⟩
def sp_place_of (u : Uni) : Sp := fun vs H Q _ => ∃ (rows : List Rw) (r : Rw), (r ∈ rows) ∧ ((rows.map Rw.name).Nodup) ∧ Pf [isL (rows.map (isRw u.K)), isS r.name] (isRw u.K r) vs H Q
theorem jc_place_of {u : Uni} {N V G : List Str} {sc : Scope} {k l j : Nat} {X : Cx} {Z : Zn} {Γ : List Ty} {e0 e1 : Expr} {pos p : Pos} {rows : List Rw} {r : Rw} (g : Good u N sc k X) (nm : Nm sc V G) (F : Callable u "place_of" l (sp_place_of u) []) (hl : Nat.ble l k = true) (hG : At G j "place_of") (ha : JA X Z Γ [e0, e1] [isL (rows.map (isRw u.K)), isS r.name]) (h1 : r ∈ rows) (h2 : (rows.map Rw.name).Nodup) (hs : starEach [e0, e1] X.env = (false, eval e0 X.env) :: starEach [e1] X.env) (hp : (backTo pos (starEach [e1] X.env)).any (·.1) = false) : J X Z Γ (.Call (.Name "place_of" p) [e0, e1] [] pos) (isRw u.K r) :=
  j_call g F (Nat.le_of_ble_eq_true hl) (fun _ _ _ h => ⟨rows, r, h1, h2, h⟩) ha (nm.gl hG) hs hp
example : True := by
  k_with "call" => ((with_reducible apply jc_place_of g nm c_place_of); (· exact rfl); (· k_extra "at"); (· k_extra "ja"); (· k_extra "side"); (· k_extra "side"); (· exact rfl); (· exact rfl))
  trivial
theorem c_place_of {u : Uni} (Df : Defd u "place_of" "place_of" (topS 27) []) : Callable u "place_of" 1 (sp_place_of u) [] := by
  refine fn_pure (k := 0) (ps := ["layout", "name"]) Df S_place_of.scope (fun f fd F => ⟨[], F.bindsN (fun _ _ _ _ _ _ us hl => match us, hl with | [_, _], _ => rfl), .nil⟩) ?_ (fun _ _ _ _ h => h)
  rintro vs H Q ⟨rows, r, h1, h2, h⟩
  refine ⟨_, _, rfl, h, fun X Z hM g hf => ?_⟩
  have S := S_place_of
  have nm := S.nm
  obtain ⟨n, hn⟩ := List.getElem?_of_mem h1
  refine tr_forD g (Ps := rows.map (isRw u.K)) (by k_extra "ji") (fun i (a : Unit) => [.val (isL (rows.map (isRw u.K))), .val (isS r.name), .any]) (fun i a => i ≤ n) () (Nat.zero_le _) (by k_extra "sub") ?_ ?_
  · rintro i P a G hP hi
    obtain ⟨r', hr, rfl⟩ := getElem_map hP
    refine ⟨_, by k_extra "jg", ?_⟩
    k_extra "if"
    · intro e
      have e := of_decide_eq_true e
      have : i = n := by
        have h3 : (rows.map Rw.name)[i]? = some r.name := by rw [List.getElem?_map, hr]; exact congrArg some e
        have h4 : (rows.map Rw.name)[n]? = some r.name := by rw [List.getElem?_map, hn]; rfl
        have hl : i < (rows.map Rw.name).length := by
          rcases Nat.lt_or_ge i (rows.map Rw.name).length with z | z
          · exact z
          · rw [List.getElem?_eq_none z] at h3; cases h3
        exact (List.getElem?_inj hl h2).mp (h3.trans h4.symm)
      subst this
      rw [hn] at hr
      cases hr
      k_extra "retL"
    · intro e
      have e := of_decide_eq_false e
      refine tr_end (tr_turnD () rfl ?_ (by k_extra "sub"))
      rcases Nat.lt_or_eq_of_le hi with z | z
      · exact z
      · subst z
        rw [hn] at hr
        cases hr
        exact absurd rfl e
  · intro a z
    have hl : n < rows.length := by
      rcases Nat.lt_or_ge n rows.length with z | z
      · exact z
      · rw [List.getElem?_eq_none z] at hn; cases hn
    rw [List.length_map] at z
    omega

end Wd

end

section
set_option maxRecDepth 100000
set_option maxHeartbeats 4000000
namespace Wd
open PySem PySem.Spec L2
/-! ### lines -/
theorem md_int {n : Int} (h : n.natAbs < 2 ^ 4000) : Md (n : Rat) := ⟨by rw [Rat.num_intCast]; exact h, by rw [Rat.den_intCast]; exact Nat.one_lt_two_pow (by decide)⟩
theorem md_small {n : Int} (h1 : -1000000000 ≤ n) (h2 : n ≤ 1000000000) : Md (n : Rat) := md_int (Nat.lt_of_lt_of_le (show n.natAbs < 2 ^ 30 by omega) (nat_pow_le (by decide)))
theorem mul_small {i j : Int} (h1 : -1000000 ≤ i) (h2 : i ≤ 1000000) (h3 : -1000000 ≤ j) (h4 : j ≤ 1000000) : CMulW i j := wide_mul (a := 20) (b := 20) (by omega) (by omega) (by decide) (by decide) (by decide)
theorem sum_small : ∀ {ns : List Int} {m : Int}, (∀ n ∈ ns, 0 ≤ n ∧ n ≤ m) → 0 ≤ ns.sum ∧ ns.sum ≤ ns.length * m
  | [], m, _ => by simp
  | n :: ns, m, h => by
    have h1 := h n List.mem_cons_self
    have h2 := sum_small (ns := ns) (m := m) fun k hk => h k (List.mem_cons_of_mem _ hk)
    rw [List.sum_cons, List.length_cons]
    have e : ((ns.length + 1 : Nat) : Int) * m = ns.length * m + m := by rw [Int.natCast_add, Int.add_mul]; simp
    omega
def goesInto (ws : List Int) (gap : Int) (w : Rat) : Bool := !decide (w < ((ws.sum + gap * max 0 ((ws.length : Int) - 1) : Int) : Rat))
theorem goes_bound {ws : List Int} {gap : Int} (h1 : ∀ n ∈ ws, 0 ≤ n ∧ n ≤ 1000) (h2 : 0 ≤ gap) (h3 : gap ≤ 1000) (h4 : ws.length ≤ 1000) : 0 ≤ ws.sum + gap * max 0 ((ws.length : Int) - 1) ∧ ws.sum + gap * max 0 ((ws.length : Int) - 1) ≤ 100000000 := by
  obtain ⟨a, b⟩ := sum_small h1
  have h5 : (0 : Int) ≤ max 0 ((ws.length : Int) - 1) := by omega
  have h6 : max 0 ((ws.length : Int) - 1) ≤ 1000 := by omega
  have h7 : 0 ≤ gap * max 0 ((ws.length : Int) - 1) := Int.mul_nonneg h2 h5
  have h8 : gap * max 0 ((ws.length : Int) - 1) ≤ 1000 * 1000 := Int.mul_le_mul h3 h6 h5 (by decide)
  omega
theorem S_goes_into : FnS ["wishes", "gap", "width"] ["wishes", "gap", "width"] ["wishes", "gap", "width"] ["is_more", "part_of", "sum", "max", "len"] (defScope (topS 52)) := ⟨by decide +kernel⟩
def sp_goes_into (u : Uni) : Sp := fun vs H Q _ => ∃ (ws : List Int) (gap : Int) (w : Rat), (∀ n ∈ ws, 0 ≤ n ∧ n ≤ 1000) ∧ (0 ≤ gap) ∧ (gap ≤ 1000) ∧ (ws.length ≤ 1000) ∧ (Md w) ∧ Pf [isL (ws.map isI), isI gap, isPt u.K w] (isB (goesInto ws gap w)) vs H Q
theorem jc_goes_into {u : Uni} {N V G : List Str} {sc : Scope} {k l j : Nat} {X : Cx} {Z : Zn} {Γ : List Ty} {e0 e1 e2 : Expr} {pos p : Pos} {ws : List Int} {gap : Int} {w : Rat} (g : Good u N sc k X) (nm : Nm sc V G) (F : Callable u "goes_into" l (sp_goes_into u) []) (hl : Nat.ble l k = true) (hG : At G j "goes_into") (ha : JA X Z Γ [e0, e1, e2] [isL (ws.map isI), isI gap, isPt u.K w]) (h1 : ∀ n ∈ ws, 0 ≤ n ∧ n ≤ 1000) (h2 : 0 ≤ gap) (h3 : gap ≤ 1000) (h4 : ws.length ≤ 1000) (h5 : Md w) (hs : starEach [e0, e1, e2] X.env = (false, eval e0 X.env) :: starEach [e1, e2] X.env) (hp : (backTo pos (starEach [e1, e2] X.env)).any (·.1) = false) : J X Z Γ (.Call (.Name "goes_into" p) [e0, e1, e2] [] pos) (isB (goesInto ws gap w)) :=
  j_call g F (Nat.le_of_ble_eq_true hl) (fun _ _ _ h => ⟨ws, gap, w, h1, h2, h3, h4, h5, h⟩) ha (nm.gl hG) hs hp
example : True := by
  k_with "call" => ((with_reducible apply jc_goes_into g nm c_goes_into); (· exact rfl); (· k_extra "at"); (· k_extra "ja"); (· k_extra "side"); (· k_extra "side"); (· k_extra "side"); (· k_extra "side"); (· k_extra "side"); (· exact rfl); (· exact rfl))
  trivial
theorem c_goes_into {u : Uni} (bt : Bts u) (c_is_more : Callable u "is_more" 1 (sp_is_more u) []) (c_part_of1 : Callable u "part_of" 2 (sp_part_of u) [.int 1]) (Df : Defd u "goes_into" "goes_into" (topS 52) []) : Callable u "goes_into" 3 (sp_goes_into u) [] := by
  refine fn_pure (k := 2) (ps := ["wishes", "gap", "width"]) Df S_goes_into.scope (fun f fd F => ⟨[], F.bindsN (fun _ _ _ _ _ _ us hl => match us, hl with | [_, _, _], _ => rfl), .nil⟩) ?_ (fun _ _ _ _ h => h)
  rintro vs H Q ⟨ws, gap, w, h1, h2, h3, h4, h5, h⟩
  refine ⟨_, _, rfl, h, fun X Z hM g hf => ?_⟩
  have S := S_goes_into
  have nm := S.nm
  have m1 : CMulW gap (max 0 ((ws.length : Int) - 1)) := mul_small (by omega) (by omega) (by omega) (by omega)
  obtain ⟨b1, b2⟩ := goes_bound h1 h2 h3 h4
  have m2 := md_small (n := ws.sum + gap * max 0 ((ws.length : Int) - 1)) (by omega) (by omega)
  have len : (ws.map isI).length = ws.length := List.length_map ..
  k_extra "ret"
  rfl
abbrev isNt (n : Nat) : Pr := isI (n : Int)
abbrev isLine (l : List Nat) : Pr := isL (l.map isNt)
/-- lines in order, none empty -/
def LinesOk (n : Nat) (ls : List (List Nat)) : Prop := ls.flatten = List.range n ∧ ∀ l ∈ ls, l ≠ []
theorem dat_line {K : PySem.W.Frag} (l : List Nat) : DatP K (isLine l) (.list (l.map fun (n : Nat) => .int (n : Int))) := dat_L lst_L (DatPs.map (fun _ => dat_I) l)
theorem dat_lines {K : PySem.W.Frag} (ls : List (List Nat)) : DatP K (isL (ls.map isLine)) (.list (ls.map fun l => .list (l.map fun (n : Nat) => .int (n : Int)))) := dat_L lst_L (DatPs.map (fun l => dat_line l) ls)
theorem shp_lines (ls : List (List Nat)) : Shp 2 (.list (ls.map fun l => .list (l.map fun (n : Nat) => .int (n : Int)))) := shp_list fun d hd => by
  obtain ⟨l, _, rfl⟩ := List.mem_map.mp hd
  exact shp_list fun d hd => by obtain ⟨n, _, rfl⟩ := List.mem_map.mp hd; exact shp_int
theorem len_flat {ls : List (List Nat)} (h : ∀ l ∈ ls, l ≠ []) : ls.length ≤ ls.flatten.length := by
  induction ls with
  | nil => exact Nat.zero_le _
  | cons l ls ih =>
    rw [List.length_cons, List.flatten_cons, List.length_append]
    have h1 := ih fun k hk => h k (List.mem_cons_of_mem _ hk)
    have h2 : 0 < l.length := List.length_pos_iff.mpr (h l List.mem_cons_self)
    omega
theorem S_broken : FnS ["wishes", "gap", "width", "found", "number", "line", "one"] ["wishes", "gap", "width"] ["wishes", "gap", "width", "found", "number", "line"] ["range", "len", "goes_into"] (defScope (topS 53)) := ⟨by decide +kernel⟩
def sp_broken (u : Uni) : Sp := fun vs H Q _ => ∃ (ws : List Int) (gap : Int) (w : Rat), (∀ n ∈ ws, 0 ≤ n ∧ n ≤ 1000) ∧ (0 ≤ gap) ∧ (gap ≤ 1000) ∧ (ws.length ≤ 900) ∧ (Md w) ∧ Pf [isL (ws.map isI), isI gap, isPt u.K w] (Pr.ex fun ls : List (List Nat) => Pr.and (LinesOk ws.length ls) (isL (ls.map isLine))) vs H Q
theorem jc_broken {u : Uni} {N V G : List Str} {sc : Scope} {k l j : Nat} {X : Cx} {Z : Zn} {Γ : List Ty} {e0 e1 e2 : Expr} {pos p : Pos} {ws : List Int} {gap : Int} {w : Rat} (g : Good u N sc k X) (nm : Nm sc V G) (F : Callable u "broken" l (sp_broken u) []) (hl : Nat.ble l k = true) (hG : At G j "broken") (ha : JA X Z Γ [e0, e1, e2] [isL (ws.map isI), isI gap, isPt u.K w]) (h1 : ∀ n ∈ ws, 0 ≤ n ∧ n ≤ 1000) (h2 : 0 ≤ gap) (h3 : gap ≤ 1000) (h4 : ws.length ≤ 900) (h5 : Md w) (hs : starEach [e0, e1, e2] X.env = (false, eval e0 X.env) :: starEach [e1, e2] X.env) (hp : (backTo pos (starEach [e1, e2] X.env)).any (·.1) = false) : J X Z Γ (.Call (.Name "broken" p) [e0, e1, e2] [] pos) (Pr.ex fun ls : List (List Nat) => Pr.and (LinesOk ws.length ls) (isL (ls.map isLine))) :=
  j_call g F (Nat.le_of_ble_eq_true hl) (fun _ _ _ h => ⟨ws, gap, w, h1, h2, h3, h4, h5, h⟩) ha (nm.gl hG) hs hp
example : True := by
  k_with "call" => ((with_reducible apply jc_broken g nm c_broken); (· exact rfl); (· k_extra "at"); (· k_extra "ja"); (· k_extra "side"); (· k_extra "side"); (· k_extra "side"); (· k_extra "side"); (· k_extra "side"); (· exact rfl); (· exact rfl))
  trivial
theorem c_broken {u : Uni} (bt : Bts u) (c_goes_into : Callable u "goes_into" 3 (sp_goes_into u) []) (Df : Defd u "broken" "broken" (topS 53) []) : Callable u "broken" 4 (sp_broken u) [] := by
  refine fn_pure (k := 3) (ps := ["wishes", "gap", "width"]) Df S_broken.scope (fun f fd F => ⟨[], F.bindsN (fun _ _ _ _ _ _ us hl => match us, hl with | [_, _, _], _ => rfl), .nil⟩) ?_ (fun _ _ _ _ h => h)
  rintro vs H Q ⟨ws, gap, w, h1, h2, h3, h4, h5, h⟩
  refine ⟨_, _, rfl, h, fun X Z hM g hf => ?_⟩
  have S := S_broken
  have nm := S.nm
  k_extra "letN"
  have hrl : (ws.map isI).length = ws.length := List.length_map ..
  have h900 : ws.length ≤ 1000000 := by omega
  refine tr_forD g (Ps := rangeP 0 ws.length) (by k_extra "ji") (fun i (ls : List (List Nat)) => [.val (isL (ws.map isI)), .val (isI gap), .val (isPt u.K w), .own true (ownL (ls.map isLine)), .any, .any, .any])
    (fun i ls => LinesOk i ls) [] ⟨rfl, fun _ h => by cases h⟩ (by k_extra "sub") ?_ ?_
  · rintro i P ls G hP ⟨hfl, hne⟩
    obtain ⟨hi, rfl⟩ := rangeP_get hP
    rw [show (0 : Int) + (i : Int) = i from Int.zero_add _]
    have hlen : (ls.map isLine).length ≤ 1000 := by
      have := len_flat hne
      rw [hfl, List.length_range] at this
      rw [List.length_map]; omega
    refine ⟨[(4, isI (i : Int))], by k_extra "jg", ?_⟩
    have nil := cmp_neNil g (dat_lines (K := u.K) ls) (shp_lines ls) (by decide)
    rcases List.eq_nil_or_concat ls with rfl | ⟨l0, l, hl⟩
    · obtain rfl : i = 0 := by
        have := congrArg List.length hfl
        rw [List.length_range] at this
        exact this.symm
      have nil : CmpR X CmpOp.NotEq (isL (List.map isLine [])) (isL []) false := nil
      apply tr_let g hf S (P := isLine [0])
      · k_extra "at"
      · k_extra "at"
      · refine j_ifF (lookT 3 rfl own_L (by k_extra "t")) ?_
        apply J.to
        · k_extra "j"
        · rfl
      · exact rfl
      · exact rfl
      apply tr_ifF
      · exact jt_bool (jw_andF (lookT 3 rfl own_L (by k_extra "t")))
      k_extra "append"
      exact tr_end (tr_turnD [[0]] rfl ⟨rfl, fun l h => by rw [List.mem_singleton.mp h]; decide⟩ (by k_extra "sub"))
    · rw [List.concat_eq_append] at hl
      subst hl
      have at1 : atI ((l0 ++ [l]).map isLine) (-1) = some (isLine l) := by rw [List.map_append]; exact atI_last _ _
      have hll : l.length ≤ i := by
        have := congrArg List.length hfl
        rw [List.length_range, List.flatten_append, List.length_append] at this
        simp at this
        omega
      have hc : (l.map isNt).length + [isI (i : Int)].length ≤ 1000 := by rw [List.length_map]; simp; omega
      have htr : (!(List.map (fun l => PyData.list (l.map fun (n : Nat) => PyData.int (n : Int))) (l0 ++ [l])).isEmpty) = true := by rw [List.map_append, List.map_cons, List.map_nil]; cases (List.map (fun l => PyData.list (l.map fun (n : Nat) => PyData.int (n : Int))) l0) <;> rfl
      rw [htr] at nil
      apply tr_let g hf S (P := isLine (l ++ [i]))
      · k_extra "at"
      · k_extra "at"
      · refine j_ifT (lookT 3 rfl own_L (by k_extra "t")) (J.to (by k_extra "j") ?_)
        show _ = isL ((l ++ [i]).map isNt)
        rw [List.map_append]; rfl
      · exact rfl
      · exact rfl
      have hlr : ∀ n ∈ l ++ [i], n < ws.length := fun n hn => by
        rcases List.mem_append.mp hn with z | z
        · have : n ∈ List.range i := by rw [← hfl, List.flatten_append]; simp [z]
          have := List.mem_range.mp this
          omega
        · rw [List.mem_singleton.mp z]; exact hi
      have q1 : ∀ n ∈ (l ++ [i]).map (fun n => ws.getD n 0), 0 ≤ n ∧ n ≤ 1000 := fun n hn => by
        obtain ⟨m, hm, rfl⟩ := List.mem_map.mp hn
        have := hlr m hm
        rw [List.getD_eq_getElem?_getD, List.getElem?_eq_getElem this]
        exact h1 _ (List.getElem_mem this)
      have q2 : ((l ++ [i]).map (fun n => ws.getD n 0)).length ≤ 1000 := by rw [List.length_map, List.length_append]; simp; omega
      apply tr_if
      · apply jt_bool
        apply jw_and
        · exact lookT 3 rfl own_L (by k_extra "t")
        · intro _
          apply jw_and1
          apply jt_call
          apply jc_goes_into g nm c_goes_into rfl (ws := (l ++ [i]).map (fun n => ws.getD n 0)) (gap := gap) (w := w)
          · k_extra "at"
          · apply ja_cons
            · rw [List.map_map]
              refine j_comp (jn_map g (xs := l ++ [i]) (A := isNt) [("one", 6)] (by k_extra "ji") (by decide +kernel) (by simp; omega) (fun n => [(6, isNt n)]) (by simp) ?_ (fun _ => rfl))
              intro n hn G X' g
              have nm := nmOf g ["one", "wishes"] [] (by decide +kernel)
              have ix : atI (ws.map isI) (n : Int) = some (isI (ws.getD n 0)) := atI_nat (by rw [List.getElem?_map, List.getD_eq_getElem?_getD, List.getElem?_eq_getElem (hlr n hn)]; rfl)
              exact ⟨by k_extra "jgo", by k_extra "j"⟩
            · k_extra "ja"
            · exact rfl
          · exact q1
          · exact h2
          · exact h3
          · exact q2
          · exact h5
          · exact rfl
          · exact rfl
      · intro e
        have ixl : ixN ((l0 ++ [l]).map isLine).length (-1) = some l0.length := by
          unfold ixN
          rw [List.length_map, List.length_append, if_neg (by decide), if_pos (by simp; omega)]
          simp
          omega
        k_extra "store"
        refine tr_end (tr_turnD (l0 ++ [l ++ [i]]) rfl ⟨?_, ?_⟩ ?_)
        · rw [List.range_succ, ← hfl, List.flatten_append, List.flatten_append]; simp
        · intro k hk
          rcases List.mem_append.mp hk with z | z
          · exact hne k (List.mem_append_left _ z)
          · rw [List.mem_singleton.mp z]; simp
        · have e : ((l0 ++ [l]).map isLine).set l0.length (isLine (l ++ [i])) = (l0 ++ [l ++ [i]]).map isLine := by
            rw [List.map_append, List.map_append]
            rw [List.set_append_right _ _ (by simp)]
            simp
          show Sub [_, _, _, .own true (ownL (((l0 ++ [l]).map isLine).set l0.length (isLine (l ++ [i])))), _, _, _] _
          rw [e]
          k_extra "sub"
      · intro e
        k_extra "append"
        refine tr_end (tr_turnD ((l0 ++ [l]) ++ [[i]]) rfl ⟨?_, ?_⟩ ?_)
        · rw [List.range_succ, ← hfl, List.flatten_append]; simp
        · intro k hk
          rcases List.mem_append.mp hk with z | z
          · exact hne k z
          · rw [List.mem_singleton.mp z]; simp
        · show Sub [_, _, _, .own true (ownL ((l0 ++ [l]).map isLine ++ [isLine [i]])), _, _, _] _
          rw [show (l0 ++ [l]).map isLine ++ [isLine [i]] = ((l0 ++ [l]) ++ [[i]]).map isLine from by rw [List.map_append (l₂ := [[i]])]; rfl]
          k_extra "sub"
  · intro ls hls
    rw [rangeP_len] at hls
    refine tr_frz 3 rfl own_L ?_
    k_extra "retT"
    exact fun S v h => ⟨ls, hls, h⟩

end Wd

end

section
set_option maxRecDepth 100000
set_option maxHeartbeats 4000000
namespace Wd
open PySem PySem.Spec L2
/-- a part of so great a bottom at most, and so great -/
structure Bd (D M : Nat) (q : Rat) : Prop where
  pos : 0 < D
  ex : ∃ k : Int, q = mkRat k D ∧ k.natAbs ≤ M * D
section
variable {D E M N : Nat} {q r : Rat}
theorem Bd.mono (h : Bd D M q) (hm : M ≤ N) : Bd D N q := by
  obtain ⟨p, k, e, b⟩ := h
  exact ⟨p, k, e, Nat.le_trans b (Nat.mul_le_mul_right _ hm)⟩
theorem Bd.times (h : Bd D M q) {c : Nat} (hc : 0 < c) : Bd (D * c) M q := by
  obtain ⟨p, k, e, b⟩ := h
  refine ⟨Nat.mul_pos p hc, k * c, ?_, ?_⟩
  · rw [e, Rat.mkRat_mul_right (by omega)]
  · rw [Int.natAbs_mul, Int.natAbs_natCast, ← Nat.mul_assoc]
    exact Nat.mul_le_mul_right _ b
theorem Bd.dvd (h : Bd D M q) (hd : D ∣ E) (he : 0 < E) : Bd E M q := by
  obtain ⟨c, rfl⟩ := hd
  exact h.times (Nat.pos_of_ne_zero fun z => by rw [z] at he; simp at he)
theorem mk_add_same (k l : Int) (h : 0 < D) : mkRat k D + mkRat l D = mkRat (k + l) D := by
  rw [Rat.mkRat_add_mkRat _ _ (by omega) (by omega), ← Int.add_mul, Rat.mkRat_mul_right (by omega)]
theorem Bd.add (h : Bd D M q) (h2 : Bd D N r) : Bd D (M + N) (q + r) := by
  obtain ⟨p, k, rfl, b⟩ := h
  obtain ⟨_, l, rfl, b2⟩ := h2
  refine ⟨p, k + l, mk_add_same k l p, ?_⟩
  rw [Nat.add_mul]
  exact Nat.le_trans (Int.natAbs_add_le _ _) (Nat.add_le_add b b2)
theorem Bd.neg (h : Bd D M q) : Bd D M (-q) := by
  obtain ⟨p, k, rfl, b⟩ := h
  exact ⟨p, -k, Rat.neg_mkRat _ _, by rw [Int.natAbs_neg]; exact b⟩
theorem Bd.sub (h : Bd D M q) (h2 : Bd D N r) : Bd D (M + N) (q - r) := by
  rw [Rat.sub_eq_add_neg]
  exact h.add h2.neg
theorem mkRat_int (n : Int) : mkRat n 1 = (n : Rat) := mkRat_one n
theorem Bd.mulI (h : Bd D M q) {n : Int} {c : Nat} (hn : n.natAbs ≤ c) : Bd D (M * c) (q * n) := by
  obtain ⟨p, k, rfl, b⟩ := h
  refine ⟨p, k * n, ?_, ?_⟩
  · rw [← mkRat_int n, Rat.mkRat_mul_mkRat, Nat.mul_one]
  · rw [Int.natAbs_mul, Nat.mul_right_comm]
    exact Nat.mul_le_mul b hn
theorem Bd.int {n : Int} (h : n.natAbs ≤ M) (hD : 0 < D) : Bd D M (n : Rat) := by
  have := (⟨Nat.one_pos, n, (mkRat_int n).symm, by omega⟩ : Bd 1 M (n : Rat))
  exact this.dvd ⟨D, (Nat.one_mul D).symm⟩ hD
theorem Bd.zero (hD : 0 < D) : Bd D M 0 := by
  have := Bd.int (M := M) (D := D) (n := 0) (by simp) hD
  simpa using this
theorem Bd.divN (h : Bd D M q) {w : Nat} (hw : 0 < w) : Bd (D * w) M (q / ((w : Int) : Rat)) := by
  obtain ⟨p, k, rfl, b⟩ := h
  refine ⟨Nat.mul_pos p hw, k, ?_, ?_⟩
  · have hw' : (((w : Int) : Rat)) ≠ 0 := by
      have : (0 : Rat) < ((w : Int) : Rat) := Rat.intCast_pos.mpr (by omega)
      exact fun z => by rw [z] at this; exact Rat.lt_irrefl this
    have e : mkRat k (D * w) * ((w : Int) : Rat) = mkRat k D := by
      rw [← mkRat_int (w : Int), Rat.mkRat_mul_mkRat, Nat.mul_one, Rat.mkRat_mul_right (by omega)]
    rw [← e, Rat.mul_div_cancel hw']
  · exact Nat.le_trans b (Nat.mul_le_mul_left _ (Nat.le_mul_of_pos_right _ hw))
theorem Bd.half (h : Bd D M q) : Bd (D * 2) M (q * mkRat 1 2) := by
  obtain ⟨p, k, rfl, b⟩ := h
  refine ⟨by omega, k, ?_, ?_⟩
  · rw [Rat.mkRat_mul_mkRat, Int.mul_one]
  · exact Nat.le_trans b (Nat.mul_le_mul_left _ (by omega))
theorem Bd.max (h : Bd D M q) (h2 : Bd D M r) : Bd D M (Max.max q r) := by rw [Rat.max_def]; split <;> assumption
theorem Bd.min (h : Bd D M q) (h2 : Bd D M r) : Bd D M (Min.min q r) := by rw [Rat.min_def]; split <;> assumption
theorem Bd.sm (h : Bd D M q) {a b : Nat} (hD : D < 2 ^ a) (hM : M < 2 ^ b) (ha : a ≤ 900) (hb : a + b ≤ 1800) : Sm q := by
  obtain ⟨p, k, rfl, bb⟩ := h
  have hk : k.natAbs < 2 ^ (a + b) := by
    rw [Nat.pow_add, Nat.mul_comm]
    exact Nat.lt_of_le_of_lt bb (Nat.mul_lt_mul'' hM hD)
  refine ⟨?_, ?_⟩
  · rw [Rat.num_mkRat, if_neg (by omega)]
    exact Nat.lt_of_le_of_lt (Int.natAbs_ediv_le_natAbs _ _) (Nat.lt_of_lt_of_le hk (nat_pow_le hb))
  · rw [Rat.den_mkRat, if_neg (by omega)]
    exact Nat.lt_of_le_of_lt (Nat.div_le_self _ _) (Nat.lt_of_lt_of_le hD (nat_pow_le ha))
end
section
variable {u : Uni} {N V G : List Str} {sc : Scope} {k : Nat} {X : Cx} {Z : Zn} {Γ : List Ty} {a b c e : Expr} {P P1 P2 P3 : Pr} {Ps : List Pr} {pos p : Pos} {x : Str} {D : Ends} {rest : List Stmt}
theorem tr_asgA {l : List (Nat × Pr)} (he : J X Z Γ e P) (hg : JG X Z Γ a P l) (hs : swapsWithSole [a] e pos.line X.env = pure false) (hw : swappedStores [a] e X.env = pure none)
    (h1 : (assignEach [a] X.env).map (·.2) = [assign a X.env]) (h : Tr X Z (setAll Γ l) rest D) : Tr X Z Γ (.Assign [a] e pos :: rest) D := tr_asg he hg h hs hw h1
end
example : True := by
  k_with "asg" => first | (apply tr_asgA; (· k_extra "j"); (· k_extra "jg"); (· exact rfl); (· exact rfl); (· exact rfl)) | fail
  k_with "j" => ((with_reducible apply j_chain); (· k_extra "j"); (· k_extra "j"); (· k_extra "j"); (· k_extra "cmp"); (· k_extra "cmp"); (· exact rfl))
  trivial
/-! ### sizes -/
structure Sz where
  wish : Int
  least : Int
  most : Option Int
  grow : Int
  shrink : Int
def isOI : Option Int → Pr
  | none => isN
  | some n => isI n
def isSz (K : PySem.W.Frag) (s : Sz) : Pr := isT K [isI s.wish, isI s.least, isOI s.most, isI s.grow, isI s.shrink]
theorem tup_Sz {K : PySem.W.Frag} {s : Sz} : TupP K (isSz K s) [isI s.wish, isI s.least, isOI s.most, isI s.grow, isI s.shrink] := fun _ _ h => h
theorem tup_Sz0 {K : PySem.W.Frag} {w l g h : Int} : TupP K (isSz K ⟨w, l, none, g, h⟩) [isI w, isI l, isN, isI g, isI h] := fun _ _ h => h
theorem tup_Sz1 {K : PySem.W.Frag} {w l m g h : Int} : TupP K (isSz K ⟨w, l, some m, g, h⟩) [isI w, isI l, isI m, isI g, isI h] := fun _ _ h => h
example : True := by
  k_with "tup" => first | with_reducible exact tup_Sz0 | with_reducible exact tup_Sz1 | with_reducible exact tup_Sz
  trivial
structure SzOk (s : Sz) : Prop where
  l0 : 0 ≤ s.least
  lw : s.least ≤ s.wish
  w1 : s.wish ≤ 1000
  m1 : ∀ m, s.most = some m → s.wish ≤ m ∧ m ≤ 1000
  g0 : 0 ≤ s.grow
  g1 : s.grow ≤ 20
  s0 : 0 ≤ s.shrink
  s1 : s.shrink ≤ 20
theorem S_is_number : FnS ["thing", "most"] ["thing", "most"] ["thing", "most"] ["isinstance", "int", "bool"] (defScope (topS 58)) := ⟨by decide +kernel⟩
def sp_is_number (u : Uni) : Sp := fun vs H Q _ => ∃ (n m : Int), (0 ≤ n) ∧ (n ≤ m) ∧ Pf [isI n, isI m] (isB true) vs H Q
theorem jc_is_number {u : Uni} {N V G : List Str} {sc : Scope} {k l j : Nat} {X : Cx} {Z : Zn} {Γ : List Ty} {e0 e1 : Expr} {pos p : Pos} {n m : Int} (g : Good u N sc k X) (nm : Nm sc V G) (F : Callable u "is_number" l (sp_is_number u) []) (hl : Nat.ble l k = true) (hG : At G j "is_number") (ha : JA X Z Γ [e0, e1] [isI n, isI m]) (h1 : 0 ≤ n) (h2 : n ≤ m) (hs : starEach [e0, e1] X.env = (false, eval e0 X.env) :: starEach [e1] X.env) (hp : (backTo pos (starEach [e1] X.env)).any (·.1) = false) : J X Z Γ (.Call (.Name "is_number" p) [e0, e1] [] pos) (isB true) :=
  j_call g F (Nat.le_of_ble_eq_true hl) (fun _ _ _ h => ⟨n, m, h1, h2, h⟩) ha (nm.gl hG) hs hp
example : True := by
  k_with "call" => ((with_reducible apply jc_is_number g nm c_is_number); (· exact rfl); (· k_extra "at"); (· k_extra "ja"); (· k_extra "side"); (· k_extra "side"); (· exact rfl); (· exact rfl))
  trivial
theorem c_is_number {u : Uni} (bt : Bts u) (Df : Defd u "is_number" "is_number" (topS 58) []) : Callable u "is_number" 1 (sp_is_number u) [] := by
  refine fn_pure (k := 0) (ps := ["thing", "most"]) Df S_is_number.scope (fun f fd F => ⟨[], F.bindsN (fun _ _ _ _ _ _ us hl => match us, hl with | [_, _], _ => rfl), .nil⟩) ?_ (fun _ _ _ _ h => h)
  rintro vs H Q ⟨n, m, h1, h2, h⟩
  refine ⟨_, _, rfl, h, fun X Z hM g hf => ?_⟩
  have S := S_is_number
  have nm := S.nm
  k_extra "ret"
  rw [decide_eq_true h1, decide_eq_true h2]
  rfl
theorem S_is_item : FnS ["thing", "wish", "least", "most", "grow", "shrink"] ["thing"] ["thing", "wish", "least", "most", "grow", "shrink"] ["isinstance", "tuple", "len", "is_number", "MOST_SIZE_sharing", "MOST_WEIGHT_sharing"] (defScope (topS 59)) := ⟨by decide +kernel⟩
def sp_is_item (u : Uni) : Sp := fun vs H Q _ => ∃ (s : Sz), (SzOk s) ∧ Pf [isSz u.K s] (isB true) vs H Q
theorem jc_is_item {u : Uni} {N V G : List Str} {sc : Scope} {k l j : Nat} {X : Cx} {Z : Zn} {Γ : List Ty} {e0 : Expr} {pos p : Pos} {s : Sz} (g : Good u N sc k X) (nm : Nm sc V G) (F : Callable u "is_item" l (sp_is_item u) []) (hl : Nat.ble l k = true) (hG : At G j "is_item") (ha : JA X Z Γ [e0] [isSz u.K s]) (h1 : SzOk s) (hs : starEach [e0] X.env = (false, eval e0 X.env) :: starEach [] X.env) (hp : (backTo pos (starEach [] X.env)).any (·.1) = false) : J X Z Γ (.Call (.Name "is_item" p) [e0] [] pos) (isB true) :=
  j_call g F (Nat.le_of_ble_eq_true hl) (fun _ _ _ h => ⟨s, h1, h⟩) ha (nm.gl hG) hs hp
example : True := by
  k_with "call" => ((with_reducible apply jc_is_item g nm c_is_item); (· exact rfl); (· k_extra "at"); (· k_extra "ja"); (· k_extra "side"); (· exact rfl); (· exact rfl))
  trivial
theorem c_is_item {u : Uni} (bt : Bts u) (c_is_number : Callable u "is_number" 1 (sp_is_number u) []) (gS : Glo u "MOST_SIZE_sharing" (isI 1000)) (gW : Glo u "MOST_WEIGHT_sharing" (isI 20)) (Df : Defd u "is_item" "is_item" (topS 59) []) : Callable u "is_item" 2 (sp_is_item u) [] := by
  refine fn_pure (k := 1) (ps := ["thing"]) Df S_is_item.scope (fun f fd F => ⟨[], F.bindsN (fun _ _ _ _ _ _ us hl => match us, hl with | [_], _ => rfl), .nil⟩) ?_ (fun _ _ _ _ h => h)
  rintro vs H Q ⟨s, h1, h⟩
  refine ⟨_, _, rfl, h, fun X Z hM g hf => ?_⟩
  have S := S_is_item
  have nm := S.nm
  obtain ⟨w, l, m, gr, sh⟩ := s
  obtain ⟨q1, q2, q3, q4, q5, q6, q7, q8⟩ := h1
  have q9 : 0 ≤ w := Int.le_trans q1 q2
  cases m with
  | none =>
    have is5 : isSz u.K ⟨w, l, none, gr, sh⟩ = isT u.K [isI w, isI l, isN, isI gr, isI sh] := rfl
    k_extra "skip"
    k_extra "asg"
    k_extra "skip"
    k_extra "skip"
    k_extra "ret"
    rfl
  | some m =>
    obtain ⟨m1, m2⟩ := q4 m rfl
    have m3 : 0 ≤ m := by omega
    have nn : ∀ (S : Hp) (v : V), (isI m).p S v → decide (v = .non) = false := fun S v h => by rw [show v = _ from h]; rfl
    k_extra "skip"
    k_extra "asg"
    k_extra "skip"
    k_extra "skip"
    k_extra "ret"
    rfl
theorem ty_L {K : PySem.W.Frag} {Ps : List Pr} : HasTy K (isL Ps) (.type "list") := fun S v ⟨a, vs, e, h, _⟩ => by rw [e]; exact .base (.lst h)
example : True := by
  k_with "ty" => with_reducible exact ty_L
  trivial
theorem all_true {α : Type} (l : List α) : (l.map fun _ => true).all id = true := by
  induction l with
  | nil => rfl
  | cons a l ih => rw [List.map_cons, List.all_cons, ih]; rfl
theorem S_need_items : FnS ["items", "item"] ["items"] ["items"] ["isinstance", "list", "all", "NoItem"] (defScope (topS 60)) := ⟨by decide +kernel⟩
def sp_need_items (u : Uni) : Sp := fun vs H Q _ => ∃ (ss : List Sz), (∀ s ∈ ss, SzOk s) ∧ (ss.length ≤ 1000) ∧ Pf [isL (ss.map (isSz u.K))] (isN) vs H Q
theorem jc_need_items {u : Uni} {N V G : List Str} {sc : Scope} {k l j : Nat} {X : Cx} {Z : Zn} {Γ : List Ty} {e0 : Expr} {pos p : Pos} {ss : List Sz} (g : Good u N sc k X) (nm : Nm sc V G) (F : Callable u "need_items" l (sp_need_items u) []) (hl : Nat.ble l k = true) (hG : At G j "need_items") (ha : JA X Z Γ [e0] [isL (ss.map (isSz u.K))]) (h1 : ∀ s ∈ ss, SzOk s) (h2 : ss.length ≤ 1000) (hs : starEach [e0] X.env = (false, eval e0 X.env) :: starEach [] X.env) (hp : (backTo pos (starEach [] X.env)).any (·.1) = false) : J X Z Γ (.Call (.Name "need_items" p) [e0] [] pos) (isN) :=
  j_call g F (Nat.le_of_ble_eq_true hl) (fun _ _ _ h => ⟨ss, h1, h2, h⟩) ha (nm.gl hG) hs hp
example : True := by
  k_with "call" => ((with_reducible apply jc_need_items g nm c_need_items); (· exact rfl); (· k_extra "at"); (· k_extra "ja"); (· k_extra "side"); (· k_extra "side"); (· exact rfl); (· exact rfl))
  trivial
theorem c_need_items {u : Uni} (bt : Bts u) (c_is_item : Callable u "is_item" 2 (sp_is_item u) []) (Df : Defd u "need_items" "need_items" (topS 60) []) : Callable u "need_items" 3 (sp_need_items u) [] := by
  refine fn_pure (k := 2) (ps := ["items"]) Df S_need_items.scope (fun f fd F => ⟨[], F.bindsN (fun _ _ _ _ _ _ us hl => match us, hl with | [_], _ => rfl), .nil⟩) ?_ (fun _ _ _ _ h => h)
  rintro vs H Q ⟨ss, h1, h2, h⟩
  refine ⟨_, _, rfl, h, fun X Z hM g hf => ?_⟩
  have S := S_need_items
  have nm := S.nm
  apply tr_skip
  · apply JT.to
    · apply jt_bool
      apply jw_or
      · k_extra "t"
      · intro _
        apply jw_or1
        apply jt_not
        apply jt_call
        apply jb_all g bt nm (ns := ss.map fun _ => true) (P := isL ((ss.map fun _ => true).map isB))
        · k_extra "at"
        · rw [List.map_map]
          refine j_comp (jn_map g (xs := ss) (A := isSz u.K) (B := fun _ => isB true) [("item", 1)] (by k_extra "ji") (by decide +kernel) h2 (fun s => [(1, isSz u.K s)]) (by simp) ?_ (fun _ => rfl))
          intro s hs G X' g
          have nm := nmOf g ["item"] ["is_item"] (by decide +kernel)
          have h3 := h1 s hs
          exact ⟨by k_extra "jgo", by k_extra "j"⟩
        · k_extra "lst"
        · exact rfl
    · rw [all_true]; rfl
  exact tr_off
def sub1 (s : Sz) (t : Rat) : Rat := max (s.least : Rat) ((s.wish : Rat) + t * (s.shrink : Rat))
def widthAt (s : Sz) (t : Rat) : Rat :=
  if t.num < 0 then sub1 s t else
    match s.most with
    | none => (s.wish : Rat) + t * (s.grow : Rat)
    | some m => min (m : Rat) ((s.wish : Rat) + t * (s.grow : Rat))
/-- numbers of few digits -/
def Sn (q : Rat) : Prop := q.num.natAbs < 2 ^ 900 ∧ q.den < 2 ^ 400
theorem Sn.sm {q : Rat} (h : Sn q) : Sm q := ⟨Nat.lt_of_lt_of_le h.1 (nat_pow_le (by decide)), Nat.lt_of_lt_of_le h.2 (nat_pow_le (by decide))⟩
theorem sn_int {n : Int} (h : n.natAbs < 2 ^ 30) : Sn (n : Rat) := ⟨by rw [Rat.num_intCast]; exact Nat.lt_of_lt_of_le h (nat_pow_le (by decide)), by rw [Rat.den_intCast]; exact Nat.one_lt_two_pow (by decide)⟩
theorem sm_mk {n : Int} {d : Nat} (h1 : 0 < d) (h2 : n.natAbs < 2 ^ 1800) (h3 : d < 2 ^ 900) : Sm (mkRat n d) := by
  refine ⟨?_, ?_⟩
  · rw [Rat.num_mkRat, if_neg (by omega)]
    exact Nat.lt_of_le_of_lt (Int.natAbs_ediv_le_natAbs _ _) h2
  · rw [Rat.den_mkRat, if_neg (by omega)]
    exact Nat.lt_of_le_of_lt (Nat.div_le_self _ _) h3
theorem Sn.mul {q r : Rat} (h : Sn q) (h2 : Sn r) : Sm (q * r) := by
  rw [Rat.mul_def']
  refine sm_mk (Nat.mul_pos q.den_pos r.den_pos) ?_ ?_
  · rw [Int.natAbs_mul, show (1800 : Nat) = 900 + 900 from rfl, Nat.pow_add]
    exact Nat.mul_lt_mul'' h.1 h2.1
  · exact Nat.lt_of_lt_of_le (Nat.mul_lt_mul'' h.2 h2.2) (by rw [← Nat.pow_add]; exact nat_pow_le (by decide))
theorem num_neg {q : Rat} : q.num < 0 ↔ q < 0 := by
  have := Rat.lt_iff q 0
  simp at this
  exact this.symm
example : True := by
  k_with "side" => ((with_reducible apply Sm.md); (· (with_reducible apply Sn.sm); (· with_reducible assumption)))
  k_with "side" => ((with_reducible apply Sm.md); (· (with_reducible apply Sn.mul); (· with_reducible assumption); (· with_reducible assumption)))
  k_with "side" => ((with_reducible apply Sm.add); (· (with_reducible apply Sn.sm); (· with_reducible assumption)); (· (with_reducible apply Sn.mul); (· with_reducible assumption); (· with_reducible assumption)))
  trivial
theorem S_width_at : FnS ["item", "share", "wish", "least", "most", "grow", "shrink", "found"] ["item", "share"] ["item", "share", "wish", "least", "most", "grow", "shrink", "found"] ["is_item", "NoItem", "greater", "part_of", "added", "product", "lesser"] (defScope (topS 61)) := ⟨by decide +kernel⟩
def sp_width_at (u : Uni) : Sp := fun vs H Q _ => ∃ (s : Sz) (t : Rat), (SzOk s) ∧ (Sn t) ∧ Pf [isSz u.K s, isPt u.K t] (isPt u.K (widthAt s t)) vs H Q
theorem jc_width_at {u : Uni} {N V G : List Str} {sc : Scope} {k l j : Nat} {X : Cx} {Z : Zn} {Γ : List Ty} {e0 e1 : Expr} {pos p : Pos} {s : Sz} {t : Rat} (g : Good u N sc k X) (nm : Nm sc V G) (F : Callable u "width_at" l (sp_width_at u) []) (hl : Nat.ble l k = true) (hG : At G j "width_at") (ha : JA X Z Γ [e0, e1] [isSz u.K s, isPt u.K t]) (h1 : SzOk s) (h2 : Sn t) (hs : starEach [e0, e1] X.env = (false, eval e0 X.env) :: starEach [e1] X.env) (hp : (backTo pos (starEach [e1] X.env)).any (·.1) = false) : J X Z Γ (.Call (.Name "width_at" p) [e0, e1] [] pos) (isPt u.K (widthAt s t)) :=
  j_call g F (Nat.le_of_ble_eq_true hl) (fun _ _ _ h => ⟨s, t, h1, h2, h⟩) ha (nm.gl hG) hs hp
example : True := by
  k_with "call" => ((with_reducible apply jc_width_at g nm c_width_at); (· exact rfl); (· k_extra "at"); (· k_extra "ja"); (· k_extra "side"); (· k_extra "side"); (· exact rfl); (· exact rfl))
  trivial
theorem c_width_at {u : Uni} (c_is_item : Callable u "is_item" 2 (sp_is_item u) []) (c_added : Callable u "added" 3 (sp_added u) []) (c_product : Callable u "product" 3 (sp_product u) []) (c_lesser : Callable u "lesser" 2 (sp_lesser u) []) (c_greater : Callable u "greater" 2 (sp_greater u) []) (c_part_of1 : Callable u "part_of" 2 (sp_part_of u) [.int 1]) (Df : Defd u "width_at" "width_at" (topS 61) []) : Callable u "width_at" 4 (sp_width_at u) [] := by
  refine fn_pure (k := 3) (ps := ["item", "share"]) Df S_width_at.scope (fun f fd F => ⟨[], F.bindsN (fun _ _ _ _ _ _ us hl => match us, hl with | [_, _], _ => rfl), .nil⟩) ?_ (fun _ _ _ _ h => h)
  rintro vs H Q ⟨s, t, h1, h2, h⟩
  refine ⟨_, _, rfl, h, fun X Z hM g hf => ?_⟩
  have S := S_width_at
  have nm := S.nm
  obtain ⟨w, l, m, gr, sh⟩ := s
  obtain ⟨q1, q2, q3, q4, q5, q6, q7, q8⟩ := id h1
  dsimp only at q1 q2 q3 q4 q5 q6 q7 q8
  have e1 : Sn (w : Rat) := sn_int (by omega)
  have e2 : Sn (l : Rat) := sn_int (by omega)
  have e3 : Sn (gr : Rat) := sn_int (by omega)
  have e4 : Sn (sh : Rat) := sn_int (by omega)
  k_extra "skip"
  cases m with
  | none =>
    k_extra "asg"
    k_extra "if"
    · intro e
      have e := of_decide_eq_true e
      k_extra "retB"
      unfold widthAt sub1
      rw [if_pos e]
    · intro e
      have e := of_decide_eq_false e
      refine tr_end ?_
      k_extra "let"
      apply tr_retP
      refine j_ifT (by k_extra "t") ?_
      apply J.to
      · k_extra "j"
      · unfold widthAt
        rw [if_neg e]
  | some m =>
    have e5 : Sn (m : Rat) := sn_int (by have := q4 m rfl; omega)
    k_extra "asg"
    k_extra "if"
    · intro e
      have e := of_decide_eq_true e
      k_extra "retB"
      unfold widthAt sub1
      rw [if_pos e]
    · intro e
      have e := of_decide_eq_false e
      refine tr_end ?_
      k_extra "let"
      apply tr_retP
      refine j_ifF (by k_extra "t") ?_
      apply J.to
      · k_extra "j"
      · unfold widthAt
        rw [if_neg e]
theorem rat_int_nn {n : Int} (h : 0 ≤ n) : (0 : Rat) ≤ (n : Rat) := Rat.intCast_nonneg.mpr h
theorem widthAt_nn {s : Sz} {t : Rat} (h : SzOk s) : 0 ≤ widthAt s t := by
  have h1 := rat_int_nn h.l0
  have h2 := rat_int_nn (Int.le_trans h.l0 h.lw)
  have h3 := rat_int_nn h.g0
  unfold widthAt sub1
  split
  · grind
  · next e =>
    have e : ¬ t < 0 := fun z => e (num_neg.mpr z)
    have h4 : 0 ≤ t * (s.grow : Rat) := Rat.mul_nonneg (by grind) h3
    split
    · grind
    · next m hm =>
      have h5 := rat_int_nn (show 0 ≤ m by have := h.m1 m hm; have := h.l0; have := h.lw; omega)
      grind
theorem widthAt_bd {D M : Nat} {s : Sz} {t : Rat} (h : SzOk s) (ht : Bd D M t) : Bd D (M * 20 + 1000) (widthAt s t) := by
  obtain ⟨q1, q2, q3, q4, q5, q6, q7, q8⟩ := id h
  have hD := ht.pos
  have a1 : Bd D (M * 20 + 1000) (s.least : Rat) := (Bd.int (M := 1000) (by omega) hD).mono (by omega)
  have a2 : Bd D 1000 (s.wish : Rat) := Bd.int (by omega) hD
  have a3 : Bd D (M * 20 + 1000) ((s.wish : Rat) + t * (s.grow : Rat)) := (a2.add (ht.mulI (c := 20) (by omega))).mono (by omega)
  have a4 : Bd D (M * 20 + 1000) ((s.wish : Rat) + t * (s.shrink : Rat)) := (a2.add (ht.mulI (c := 20) (by omega))).mono (by omega)
  unfold widthAt sub1
  split
  · exact Bd.max a1 a4
  · split
    · exact a3
    · next m hm =>
      have : Bd D (M * 20 + 1000) (m : Rat) := (Bd.int (M := 1000) (by have := q4 m hm; omega) hD).mono (by omega)
      exact Bd.min this a3
theorem Bd.sn {D M : Nat} {q : Rat} (h : Bd D M q) (hD : D < 2 ^ 400) (hM : M < 2 ^ 500) : Sn q := by
  obtain ⟨p, k, rfl, bb⟩ := h
  have hk : k.natAbs < 2 ^ 900 := by
    rw [show (900 : Nat) = 500 + 400 from rfl, Nat.pow_add]
    exact Nat.lt_of_le_of_lt bb (Nat.mul_lt_mul'' hM hD)
  refine ⟨?_, ?_⟩
  · rw [Rat.num_mkRat, if_neg (by omega)]
    exact Nat.lt_of_le_of_lt (Int.natAbs_ediv_le_natAbs _ _) hk
  · rw [Rat.den_mkRat, if_neg (by omega)]
    exact Nat.lt_of_le_of_lt (Nat.div_le_self _ _) hD
theorem S_total_of : FnS ["widths", "found", "width"] ["widths"] ["widths", "found", "width"] ["NOUGHT_sharing", "added"] (defScope (topS 62)) := ⟨by decide +kernel⟩
def sp_total_of (u : Uni) : Sp := fun vs H Q _ => ∃ (ws : List Rat) (D M : Nat), (∀ w ∈ ws, Bd D M w) ∧ (D < 2 ^ 400) ∧ (M < 2 ^ 400) ∧ (ws.length ≤ 1000) ∧ Pf [isL (ws.map (isPt u.K))] (isPt u.K ws.sum) vs H Q
theorem jc_total_of {u : Uni} {N V G : List Str} {sc : Scope} {k l j : Nat} {X : Cx} {Z : Zn} {Γ : List Ty} {e0 : Expr} {pos p : Pos} {ws : List Rat} {D M : Nat} (g : Good u N sc k X) (nm : Nm sc V G) (F : Callable u "total_of" l (sp_total_of u) []) (hl : Nat.ble l k = true) (hG : At G j "total_of") (ha : JA X Z Γ [e0] [isL (ws.map (isPt u.K))]) (h1 : ∀ w ∈ ws, Bd D M w) (h2 : D < 2 ^ 400) (h3 : M < 2 ^ 400) (h4 : ws.length ≤ 1000) (hs : starEach [e0] X.env = (false, eval e0 X.env) :: starEach [] X.env) (hp : (backTo pos (starEach [] X.env)).any (·.1) = false) : J X Z Γ (.Call (.Name "total_of" p) [e0] [] pos) (isPt u.K ws.sum) :=
  j_call g F (Nat.le_of_ble_eq_true hl) (fun _ _ _ h => ⟨ws, D, M, h1, h2, h3, h4, h⟩) ha (nm.gl hG) hs hp
example : True := by
  k_with "call" => ((with_reducible apply jc_total_of g nm c_total_of); (· exact rfl); (· k_extra "at"); (· k_extra "ja"); (· k_extra "side"); (· k_extra "side"); (· k_extra "side"); (· k_extra "side"); (· exact rfl); (· exact rfl))
  trivial
theorem c_total_of {u : Uni} (c_added : Callable u "added" 3 (sp_added u) []) (gN : Glo u "NOUGHT_sharing" (isPt u.K 0)) (Df : Defd u "total_of" "total_of" (topS 62) []) : Callable u "total_of" 4 (sp_total_of u) [] := by
  refine fn_pure (k := 3) (ps := ["widths"]) Df S_total_of.scope (fun f fd F => ⟨[], F.bindsN (fun _ _ _ _ _ _ us hl => match us, hl with | [_], _ => rfl), .nil⟩) ?_ (fun _ _ _ _ h => h)
  rintro vs H Q ⟨ws, D, M, h1, h2, h3, h4, h⟩
  refine ⟨_, _, rfl, h, fun X Z hM g hf => ?_⟩
  have S := S_total_of
  have nm := S.nm
  k_extra "let"
  have key : ∀ i, i ≤ ws.length → 0 < D → Bd D (i * M) (ws.take i).sum := by
    intro i
    induction i with
    | zero => intro _ hD; exact Bd.zero hD
    | succ i ih =>
      intro hi hD
      have e : ws.take (i + 1) = ws.take i ++ [ws[i]] := by rw [List.take_succ, List.getElem?_eq_getElem (by omega)]; rfl
      rw [e, List.sum_append, List.sum_singleton, Nat.succ_mul]
      exact (ih (by omega) hD).add (h1 _ (List.getElem_mem _))
  refine tr_forD g (Ps := ws.map (isPt u.K)) (by k_extra "ji") (fun i (a : Rat) => [.val (isL (ws.map (isPt u.K))), .val (isPt u.K a), .any]) (fun i a => a = (ws.take i).sum) 0 rfl (by k_extra "sub") ?_ ?_
  · rintro i P a G hP rfl
    obtain ⟨r, hr, rfl⟩ := getElem_map hP
    have hl : i < ws.length := get_lt hr
    have b1 := h1 r (List.mem_of_getElem? hr)
    have b2 := key i (Nat.le_of_lt hl) b1.pos
    have b3 : i * M < 2 ^ 500 := by
      have : i * M < 2 ^ 10 * 2 ^ 400 := Nat.mul_lt_mul'' (by omega) h3
      rw [← Nat.pow_add] at this
      exact Nat.lt_of_lt_of_le this (nat_pow_le (by decide))
    have s1 := b1.sn h2 (Nat.lt_of_lt_of_le h3 (nat_pow_le (by decide)))
    have s2 := b2.sn h2 b3
    have s3 := s1.sm
    have s4 := s2.sm
    refine ⟨_, by k_extra "jg", ?_⟩
    k_extra "let"
    refine tr_turnD _ rfl rfl ?_
    rw [show (ws.take (i + 1)).sum = (ws.take i).sum + r from by rw [List.take_succ, hr, List.sum_append]; show _ + [r].sum = _; rw [List.sum_singleton]]
    k_extra "sub"
  · rintro a rfl
    k_extra "ret"
    rw [List.length_map, List.take_length]
def boundOf (s : Sz) (gr : Bool) : Option Rat :=
  if gr = true then
    match s.most with
    | none => none
    | some m => if 0 < s.grow then some (mkRat (m - s.wish) s.grow.toNat) else none
  else if 0 < s.shrink then some (mkRat (s.wish - s.least) s.shrink.toNat) else none
def isOP : Option Rat → Pr
  | none => isN
  | some q => isPtt q

end Wd

end

section
set_option maxRecDepth 100000
set_option maxHeartbeats 4000000
namespace Wd
open PySem PySem.Spec L2
section
variable {u : Uni} {X : Cx} {Z : Zn} {Γ : List Ty}
theorem nn_Ptt {q : Rat} : ∀ (S : Hp) (v : V), (isPtt q).p S v → decide (v = .non) = false := nn_T (K := []) tup_Ptt
theorem nn_Pt {K : PySem.W.Frag} {q : Rat} : ∀ (S : Hp) (v : V), (isPt K q).p S v → decide (v = .non) = false := nn_T tup_Pt
end
example : True := by
  k_with "ptt" => ((with_reducible apply jc_part_of_t g nm c_part_of); (· exact rfl); (· k_extra "at"); (· k_extra "ja"); (· k_extra "side"); (· k_extra "side"); (· exact rfl); (· exact rfl))
  trivial
theorem S_bound_of : FnS ["item", "grows", "wish", "least", "most", "grow", "shrink"] ["item", "grows"] ["item", "grows", "wish", "least", "most", "grow", "shrink"] ["part_of"] (defScope (topS 63)) := ⟨by decide +kernel⟩
def sp_bound_of (u : Uni) : Sp := fun vs H Q _ => ∃ (s : Sz) (b : Bool), (SzOk s) ∧ Pf [isSz u.K s, isB b] (isOP (boundOf s b)) vs H Q
theorem jc_bound_of {u : Uni} {N V G : List Str} {sc : Scope} {k l j : Nat} {X : Cx} {Z : Zn} {Γ : List Ty} {e0 e1 : Expr} {pos p : Pos} {s : Sz} {b : Bool} (g : Good u N sc k X) (nm : Nm sc V G) (F : Callable u "bound_of" l (sp_bound_of u) []) (hl : Nat.ble l k = true) (hG : At G j "bound_of") (ha : JA X Z Γ [e0, e1] [isSz u.K s, isB b]) (h1 : SzOk s) (hs : starEach [e0, e1] X.env = (false, eval e0 X.env) :: starEach [e1] X.env) (hp : (backTo pos (starEach [e1] X.env)).any (·.1) = false) : J X Z Γ (.Call (.Name "bound_of" p) [e0, e1] [] pos) (isOP (boundOf s b)) :=
  j_call g F (Nat.le_of_ble_eq_true hl) (fun _ _ _ h => ⟨s, b, h1, h⟩) ha (nm.gl hG) hs hp
example : True := by
  k_with "call" => ((with_reducible apply jc_bound_of g nm c_bound_of); (· exact rfl); (· k_extra "at"); (· k_extra "ja"); (· k_extra "side"); (· exact rfl); (· exact rfl))
  trivial
theorem c_bound_of {u : Uni} (c_part_of : Callable u "part_of" 2 (sp_part_of u) []) (Df : Defd u "bound_of" "bound_of" (topS 63) []) : Callable u "bound_of" 3 (sp_bound_of u) [] := by
  refine fn_pure (k := 2) (ps := ["item", "grows"]) Df S_bound_of.scope (fun f fd F => ⟨[], F.bindsN (fun _ _ _ _ _ _ us hl => match us, hl with | [_, _], _ => rfl), .nil⟩) ?_ (fun _ _ _ _ h => h)
  rintro vs H Q ⟨s, b, h1, h⟩
  refine ⟨_, _, rfl, h, fun X Z hM g hf => ?_⟩
  have S := S_bound_of
  have nm := S.nm
  obtain ⟨w, l, m, gr, sh⟩ := s
  obtain ⟨q1, q2, q3, q4, q5, q6, q7, q8⟩ := id h1
  dsimp only at q1 q2 q3 q4 q5 q6 q7 q8
  have b1 : gr.natAbs < 2 ^ 8000 := Nat.lt_of_lt_of_le (show gr.natAbs < 2 ^ 30 by omega) (nat_pow_le (by decide))
  have b2 : sh.natAbs < 2 ^ 8000 := Nat.lt_of_lt_of_le (show sh.natAbs < 2 ^ 30 by omega) (nat_pow_le (by decide))
  cases m with
  | none =>
    k_extra "asg"
    apply tr_if
    · k_extra "t"
    · rintro rfl
      apply tr_retB
      refine j_if (d := decide (0 < gr) && !true) (by k_extra "t") (fun e => ?_) fun e => ?_
      · rw [Bool.and_comm] at e; cases e
      · apply J.to
        · k_extra "j"
        · rfl
    · rintro rfl
      refine tr_end ?_
      apply tr_retP
      refine j_if (by k_extra "t") (fun e => ?_) fun e => ?_
      · have e := of_decide_eq_true e
        apply J.to
        · k_extra "ptt"
        · show _ = isOP (if 0 < sh then some _ else none)
          rw [if_pos e]; rfl
      · have e := of_decide_eq_false e
        apply J.to
        · k_extra "j"
        · show _ = isOP (if 0 < sh then some _ else none)
          rw [if_neg e]; rfl
  | some m =>
    k_extra "asg"
    apply tr_if
    · k_extra "t"
    · rintro rfl
      apply tr_retB
      refine j_if (d := decide (0 < gr) && !false) (by k_extra "t") (fun e => ?_) fun e => ?_
      · have e : 0 < gr := by simpa using e
        apply J.to
        · k_extra "ptt"
        · show _ = isOP (if 0 < gr then some _ else none)
          rw [if_pos e]; rfl
      · have e : ¬ 0 < gr := by simpa using e
        apply J.to
        · k_extra "j"
        · show _ = isOP (if 0 < gr then some _ else none)
          rw [if_neg e]; rfl
    · rintro rfl
      refine tr_end ?_
      apply tr_retP
      refine j_if (by k_extra "t") (fun e => ?_) fun e => ?_
      · have e := of_decide_eq_true e
        apply J.to
        · k_extra "ptt"
        · show _ = isOP (if 0 < sh then some _ else none)
          rw [if_pos e]; rfl
      · have e := of_decide_eq_false e
        apply J.to
        · k_extra "j"
        · show _ = isOP (if 0 < sh then some _ else none)
          rw [if_neg e]; rfl
theorem S_weight_of : FnS ["item", "grows"] ["item", "grows"] ["item", "grows"] [] (defScope (topS 64)) := ⟨by decide +kernel⟩
def sp_weight_of (u : Uni) : Sp := fun vs H Q _ => ∃ (s : Sz) (b : Bool), Pf [isSz u.K s, isB b] (isI (if b then s.grow else s.shrink)) vs H Q
theorem jc_weight_of {u : Uni} {N V G : List Str} {sc : Scope} {k l j : Nat} {X : Cx} {Z : Zn} {Γ : List Ty} {e0 e1 : Expr} {pos p : Pos} {s : Sz} {b : Bool} (g : Good u N sc k X) (nm : Nm sc V G) (F : Callable u "weight_of" l (sp_weight_of u) []) (hl : Nat.ble l k = true) (hG : At G j "weight_of") (ha : JA X Z Γ [e0, e1] [isSz u.K s, isB b])  (hs : starEach [e0, e1] X.env = (false, eval e0 X.env) :: starEach [e1] X.env) (hp : (backTo pos (starEach [e1] X.env)).any (·.1) = false) : J X Z Γ (.Call (.Name "weight_of" p) [e0, e1] [] pos) (isI (if b then s.grow else s.shrink)) :=
  j_call g F (Nat.le_of_ble_eq_true hl) (fun _ _ _ h => ⟨s, b, h⟩) ha (nm.gl hG) hs hp
example : True := by
  k_with "call" => ((with_reducible apply jc_weight_of g nm c_weight_of); (· exact rfl); (· k_extra "at"); (· k_extra "ja"); (· exact rfl); (· exact rfl))
  trivial
theorem c_weight_of {u : Uni} (Df : Defd u "weight_of" "weight_of" (topS 64) []) : Callable u "weight_of" 1 (sp_weight_of u) [] := by
  refine fn_pure (k := 0) (ps := ["item", "grows"]) Df S_weight_of.scope (fun f fd F => ⟨[], F.bindsN (fun _ _ _ _ _ _ us hl => match us, hl with | [_, _], _ => rfl), .nil⟩) ?_ (fun _ _ _ _ h => h)
  rintro vs H Q ⟨s, b, h⟩
  refine ⟨_, _, rfl, h, fun X Z hM g hf => ?_⟩
  have S := S_weight_of
  have nm := S.nm
  apply tr_retP
  refine j_if (by k_extra "t") (fun e => ?_) fun e => ?_
  · subst e
    apply J.to
    · k_extra "j"
    · rfl
  · subst e
    apply J.to
    · k_extra "j"
    · rfl
section
variable {u : Uni} {N V G : List Str} {sc : Scope} {k : Nat} {X : Cx} {Z : Zn} {Γ : List Ty} {a b c e : Expr} {P P1 P2 P3 : Pr} {Ps : List Pr} {pos p apos : Pos} {x : Str} {D : Ends} {rest sts : List Stmt}
theorem tr_wk (i : Nat) {P' : Pr} (hΓ : Γ[i]? = some (.val P)) (hp : ∀ S v, P.p S v → P'.p S v) (h : Tr X Z (Γ.set i (.val P')) sts D) : Tr X Z Γ sts D := ⟨fun own σ H g => by
  obtain ⟨v, e, q⟩ := g.val hΓ
  have g' := g.set (i := i) (P := P') (v := v) (get_lt hΓ) (hp _ _ q)
  rw [set_self e] at g'
  exact h own σ H g'⟩
theorem tr_insertA (g : Good u N sc k X) (nm : Nm sc V G) {i j : Nat} {l : Bool} {n : Nat} (hN : At N i x) (hV : At V j x) (hΓ : Γ[i]? = some (.own l (ownL Ps))) (ha : J X Z Γ a (isI (n : Int))) (he : J X Z Γ e P) (hsz : Ps.length ≤ 1000) (hn : n ≤ 1000)
    (hbase : attributeBase (.Name x p) "insert" X.env (eval (.Name x p) X.env) = eval (.Name x p) X.env)
    (hfew : ((backTo pos (starEach [a, e] X.env)).all (fun x => !x.1) && (backToKw pos (keywordEach [] X.env)).all (fun x => x.1.isSome) && decide ([a, e].length + ([] : List Keyword).length + (if ([] : List Keyword).isEmpty then 0 else 1) < 30)) = true)
    (hline : (apos.endLine == pos.line) = true) (hs : starEach [a, e] X.env = (false, eval a X.env) :: starEach [e] X.env) (hs2 : starEach [e] X.env = (false, eval e X.env) :: starEach [] X.env)
    (hpl : (backTo pos (starEach [e] X.env)).any (·.1) = false) {pos2 : Pos} (hsw : swapsWith (.Call (.Attribute (.Name x p) "insert" apos) [a, e] [] pos) none pos2.line X.env = pure false)
    (h : Tr X Z (Γ.set i (.own l (ownL (Ps.take n ++ [P] ++ Ps.drop n)))) rest D) :
    Tr X Z Γ (.Expr (.Call (.Attribute (.Name x p) "insert" apos) [a, e] [] pos) pos2 :: rest) D := tr_insert g i hΓ hN.get (nm.var hV) ha he hsz hn h hbase hfew hline hs hs2 hpl hsw
end
example : True := by
  k_with "insert" => first | (apply tr_insertA g nm; (· k_extra "at"); (· k_extra "at"); (· exact rfl); (· k_extra "j"); (· k_extra "j"); (· k_extra "side"); (· k_extra "side"); (· exact rfl); (· exact rfl); (· exact rfl); (· exact rfl); (· exact rfl); (· exact rfl); (· exact rfl)) | fail
  k_with "putT" => first | (apply tr_putT g nm; (· k_extra "at"); (· k_extra "at"); (· exact rfl); (· k_extra "j"); (· k_extra "j"); (· k_extra "side"); (· k_extra "side"); (· exact rfl)) | fail
  trivial
def wt (b : Bool) (s : Sz) : Int := if b then s.grow else s.shrink
theorem wt_b {b : Bool} {s : Sz} (h : SzOk s) : 0 ≤ wt b s ∧ wt b s ≤ 20 := by
  unfold wt
  have := h.g0; have := h.g1; have := h.s0; have := h.s1
  split <;> omega
def LL : Nat := 232792560
def EndOk (q : Rat) : Prop := Bd LL 1000 q
theorem boundOf_ok {s : Sz} {b : Bool} {q : Rat} (h : SzOk s) (e : boundOf s b = some q) : EndOk q := by
  have dv' : ∀ n : Nat, n < 21 → 0 < n → n ∣ LL := by decide
  have dv : ∀ n : Nat, 0 < n → n ≤ 20 → n ∣ LL := fun n h1 h2 => dv' n (by omega) h1
  obtain ⟨q1, q2, q3, q4, q5, q6, q7, q8⟩ := id h
  have mk : ∀ (k : Int) (n : Int), 0 < n → n ≤ 20 → 0 ≤ k → k ≤ 1000 → EndOk (mkRat k n.toNat) := fun k n h1 h2 h3 h4 => by
    have p : 0 < n.toNat := by omega
    have : Bd n.toNat 1000 (mkRat k n.toNat) := ⟨p, k, rfl, Nat.le_trans (show k.natAbs ≤ 1000 by omega) (Nat.le_mul_of_pos_right _ p)⟩
    exact this.dvd (dv _ p (by omega)) (by decide)
  unfold boundOf at e
  split at e
  · split at e
    · cases e
    · next m hm =>
      split at e
      · cases e
        exact mk _ _ (by omega) q6 (by have := q4 m hm; omega) (by have := q4 m hm; omega)
      · cases e
  · split at e
    · cases e
      exact mk _ _ (by omega) q8 (by omega) (by omega)
    · cases e
theorem EndOk.sn {q : Rat} (h : EndOk q) : Sn q := Bd.sn h (Nat.lt_of_lt_of_le (show LL < 2 ^ 30 by decide) (nat_pow_le (by decide))) (Nat.lt_of_lt_of_le (show 1000 < 2 ^ 30 by decide) (nat_pow_le (by decide)))
def beyond (b : Bool) (far : Rat) (s : Sz) : Bool := match boundOf s b with
  | none => true
  | some q => decide (far < q)
def wB (ss : List Sz) (b : Bool) (far : Rat) : Int := ((ss.filter (beyond b far)).map (wt b)).sum
theorem wB_b {ss : List Sz} {b : Bool} {far : Rat} (h : ∀ s ∈ ss, SzOk s) (hl : ss.length ≤ 12) : 0 ≤ wB ss b far ∧ wB ss b far ≤ 240 := by
  have := sum_small (ns := (ss.filter (beyond b far)).map (wt b)) (m := 20) fun n hn => by
    obtain ⟨s, hs, rfl⟩ := List.mem_map.mp hn
    exact wt_b (h s (List.mem_filter.mp hs).1)
  have l1 := List.length_filter_le (beyond b far) ss
  rw [List.length_map] at this
  unfold wB
  have l2 : (((ss.filter (beyond b far)).length : Nat) : Int) ≤ 12 := by omega
  omega
theorem S_weight_beyond : FnS ["items", "grows", "far", "found", "item", "bound"] ["items", "grows", "far"] ["items", "grows", "far", "found", "item", "bound"] ["bound_of", "is_more", "weight_of"] (defScope (topS 66)) := ⟨by decide +kernel⟩
def sp_weight_beyond (u : Uni) : Sp := fun vs H Q _ => ∃ (ss : List Sz) (b : Bool) (far : Rat), (∀ s ∈ ss, SzOk s) ∧ (ss.length ≤ 12) ∧ (Sn far) ∧ Pf [isL (ss.map (isSz u.K)), isB b, isPt u.K far] (isI (wB ss b far)) vs H Q
theorem jc_weight_beyond {u : Uni} {N V G : List Str} {sc : Scope} {k l j : Nat} {X : Cx} {Z : Zn} {Γ : List Ty} {e0 e1 e2 : Expr} {pos p : Pos} {ss : List Sz} {b : Bool} {far : Rat} (g : Good u N sc k X) (nm : Nm sc V G) (F : Callable u "weight_beyond" l (sp_weight_beyond u) []) (hl : Nat.ble l k = true) (hG : At G j "weight_beyond") (ha : JA X Z Γ [e0, e1, e2] [isL (ss.map (isSz u.K)), isB b, isPt u.K far]) (h1 : ∀ s ∈ ss, SzOk s) (h2 : ss.length ≤ 12) (h3 : Sn far) (hs : starEach [e0, e1, e2] X.env = (false, eval e0 X.env) :: starEach [e1, e2] X.env) (hp : (backTo pos (starEach [e1, e2] X.env)).any (·.1) = false) : J X Z Γ (.Call (.Name "weight_beyond" p) [e0, e1, e2] [] pos) (isI (wB ss b far)) :=
  j_call g F (Nat.le_of_ble_eq_true hl) (fun _ _ _ h => ⟨ss, b, far, h1, h2, h3, h⟩) ha (nm.gl hG) hs hp
example : True := by
  k_with "call" => ((with_reducible apply jc_weight_beyond g nm c_weight_beyond); (· exact rfl); (· k_extra "at"); (· k_extra "ja"); (· k_extra "side"); (· k_extra "side"); (· k_extra "side"); (· exact rfl); (· exact rfl))
  trivial
theorem c_weight_beyond {u : Uni} (bt : Bts u) (c_bound_of : Callable u "bound_of" 3 (sp_bound_of u) []) (c_is_more : Callable u "is_more" 1 (sp_is_more u) []) (c_weight_of : Callable u "weight_of" 1 (sp_weight_of u) []) (Df : Defd u "weight_beyond" "weight_beyond" (topS 66) []) : Callable u "weight_beyond" 4 (sp_weight_beyond u) [] := by
  refine fn_pure (k := 3) (ps := ["items", "grows", "far"]) Df S_weight_beyond.scope (fun f fd F => ⟨[], F.bindsN (fun _ _ _ _ _ _ us hl => match us, hl with | [_, _, _], _ => rfl), .nil⟩) ?_ (fun _ _ _ _ h => h)
  rintro vs H Q ⟨ss, b, far, h1, h2, h3, h⟩
  refine ⟨_, _, rfl, h, fun X Z hM g hf => ?_⟩
  have S := S_weight_beyond
  have nm := S.nm
  k_extra "let"
  refine tr_forD g (Ps := ss.map (isSz u.K)) (by k_extra "ji") (fun i (a : Int) => [.val (isL (ss.map (isSz u.K))), .val (isB b), .val (isPt u.K far), .val (isI a), .any, .any]) (fun i a => a = wB (ss.take i) b far) 0 rfl (by k_extra "sub") ?_ ?_
  · rintro i P a G hP rfl
    obtain ⟨s, hr, rfl⟩ := getElem_map hP
    have ok := h1 s (List.mem_of_getElem? hr)
    have ft : wB (ss.take (i + 1)) b far = wB (ss.take i) b far + (if beyond b far s then wt b s else 0) := by
      unfold wB
      rw [List.take_succ, hr, List.filter_append, List.map_append, List.sum_append]
      cases hb : beyond b far s with
      | true => rw [show List.filter (beyond b far) (some s).toList = [s] from by simp [hb]]; simp
      | false => rw [show List.filter (beyond b far) (some s).toList = [] from by simp [hb]]; simp
    refine ⟨_, by k_extra "jg", ?_⟩
    k_extra "let"
    cases hb : boundOf s b with
    | none =>
      refine tr_wk 5 (P' := isN) rfl (fun _ _ h => h) ?_
      k_extra "ifT"
      k_extra "aug"
      refine tr_end (tr_turnD _ rfl ft.symm ?_)
      rw [show beyond b far s = true from by unfold beyond; rw [hb]]
      k_extra "sub"
    | some q =>
      have s1 := (boundOf_ok ok hb).sn
      refine tr_wk 5 (P' := isPt u.K q) rfl ptt_Pt ?_
      have hbe : beyond b far s = decide (far < q) := by unfold beyond; rw [hb]
      k_extra "if"
      · intro e
        k_extra "aug"
        refine tr_end (tr_turnD _ rfl ft.symm ?_)
        rw [show beyond b far s = true from by rw [hbe]; simpa using e]
        k_extra "sub"
      · intro e
        refine tr_end (tr_turnD _ rfl ft.symm ?_)
        rw [show beyond b far s = false from by rw [hbe]; simpa using e, if_neg (by decide), Int.add_zero]
        k_extra "sub"
  · rintro a rfl
    k_extra "ret"
    rw [List.length_map, List.take_length]
theorem S_ends_of : FnS ["items", "grows", "bounds", "item", "bound", "found", "at", "one"] ["items", "grows"] ["items", "grows", "bounds", "item", "bound", "found", "at"] ["bound_of", "len"] (defScope (topS 65)) := ⟨by decide +kernel⟩
def sp_ends_of (u : Uni) : Sp := fun vs H Q _ => ∃ (ss : List Sz) (b : Bool), (∀ s ∈ ss, SzOk s) ∧ (ss.length ≤ 12) ∧ Pf [isL (ss.map (isSz u.K)), isB b] (Pr.ex fun es : List Rat => Pr.and (es.length ≤ ss.length ∧ ∀ e ∈ es, EndOk e) (isL (es.map (isPt u.K)))) vs H Q
theorem jc_ends_of {u : Uni} {N V G : List Str} {sc : Scope} {k l j : Nat} {X : Cx} {Z : Zn} {Γ : List Ty} {e0 e1 : Expr} {pos p : Pos} {ss : List Sz} {b : Bool} (g : Good u N sc k X) (nm : Nm sc V G) (F : Callable u "ends_of" l (sp_ends_of u) []) (hl : Nat.ble l k = true) (hG : At G j "ends_of") (ha : JA X Z Γ [e0, e1] [isL (ss.map (isSz u.K)), isB b]) (h1 : ∀ s ∈ ss, SzOk s) (h2 : ss.length ≤ 12) (hs : starEach [e0, e1] X.env = (false, eval e0 X.env) :: starEach [e1] X.env) (hp : (backTo pos (starEach [e1] X.env)).any (·.1) = false) : J X Z Γ (.Call (.Name "ends_of" p) [e0, e1] [] pos) (Pr.ex fun es : List Rat => Pr.and (es.length ≤ ss.length ∧ ∀ e ∈ es, EndOk e) (isL (es.map (isPt u.K)))) :=
  j_call g F (Nat.le_of_ble_eq_true hl) (fun _ _ _ h => ⟨ss, b, h1, h2, h⟩) ha (nm.gl hG) hs hp
example : True := by
  k_with "call" => ((with_reducible apply jc_ends_of g nm c_ends_of); (· exact rfl); (· k_extra "at"); (· k_extra "ja"); (· k_extra "side"); (· k_extra "side"); (· exact rfl); (· exact rfl))
  trivial
theorem c_ends_of {u : Uni} (bt : Bts u) (c_bound_of : Callable u "bound_of" 3 (sp_bound_of u) []) (c_is_more : Callable u "is_more" 1 (sp_is_more u) []) (Df : Defd u "ends_of" "ends_of" (topS 65) []) : Callable u "ends_of" 4 (sp_ends_of u) [] := by
  refine fn_pure (k := 3) (ps := ["items", "grows"]) Df S_ends_of.scope (fun f fd F => ⟨[], F.bindsN (fun _ _ _ _ _ _ us hl => match us, hl with | [_, _], _ => rfl), .nil⟩) ?_ (fun _ _ _ _ h => h)
  rintro vs H Q ⟨ss, b, h1, h2, h⟩
  refine ⟨_, _, rfl, h, fun X Z hM g hf => ?_⟩
  have S := S_ends_of
  have nm := S.nm
  apply tr_letN g hf S
  · k_extra "at"
  · k_extra "at"
  · exact jn_newT (φ := EndOk)
  · exact rfl
  · exact rfl
  refine tr_forD g (Ps := ss.map (isSz u.K)) (by k_extra "ji") (fun i (a : Unit) => [.val (isL (ss.map (isSz u.K))), .val (isB b), .own true (ownDT EndOk i), .any, .any, .any, .any, .any]) (fun i a => True) () trivial (by k_extra "sub") ?_ ?_
  · rintro i P a G hP -
    obtain ⟨s, hr, rfl⟩ := getElem_map hP
    have ok := h1 s (List.mem_of_getElem? hr)
    have hi : i ≤ 1000 := by have := get_lt hr; omega
    refine ⟨_, by k_extra "jg", ?_⟩
    k_extra "let"
    cases hb : boundOf s b with
    | none =>
      have up : ∀ S o, (ownDT EndOk i).c S o → (ownDT EndOk (i + 1)).c S o := fun S o ⟨kvs, e, h1, h2⟩ => ⟨kvs, e, by omega, h2⟩
      refine tr_wk 4 (P' := isN) rfl (fun _ _ h => h) ?_
      k_extra "ifF"
      refine tr_end (tr_turnD () rfl trivial ?_)
      repeat (first | exact Sub.nil | (apply Sub.cons; (· first | exact Ty.Le.refl _ | exact Ty.Le.any _ | exact Ty.Le.own up)))
    | some q =>
      have ok2 := boundOf_ok ok hb
      apply tr_ifT
      · apply JT.to
        · apply jt_cmp
          · k_extra "j"
          · k_extra "j"
          · exact cmp_isNotN nn_Ptt
          · exact rfl
        · rfl
      k_extra "putT"
      refine tr_end (tr_turnD () rfl trivial ?_)
      k_extra "sub"
  · rintro a -
    rw [List.length_map]
    k_extra "letN"
    refine tr_forT g nm (φ := EndOk) (n := ss.length) (by k_extra "at") (by k_extra "at") rfl (fun i (es : List Rat) => [.val (isL (ss.map (isSz u.K))), .val (isB b), .any, .any, .any, .own true (ownL (es.map (isPt u.K))), .any, .any]) (fun i es => es.length = i ∧ ∀ e ∈ es, EndOk e) [] ⟨rfl, fun _ h => nomatch h⟩ (by k_extra "sub") ?_ ?_ (fun _ => rfl)
    · rintro i q es Z' hi hq ⟨hl, hes⟩
      refine ⟨[(4, isPtt q)], by k_extra "jg", ?_⟩
      refine tr_wk 4 (P' := isPt u.K q) rfl ptt_Pt ?_
      have q1 := hq.sn
      apply tr_let g hf S (P := isI (((es.filter fun o => decide (o < q)).length : Nat) : Int))
      · k_extra "at"
      · k_extra "at"
      · refine look 5 rfl own_L plain_V ?_
        apply jb_len g bt nm (P := isL ((es.filter fun o => decide (o < q)).map (isPt u.K)))
        · k_extra "at"
        · refine j_comp (jn_filt g (xs := es) (A := isPt u.K) (B := isPt u.K) (fun o => decide (o < q)) [("one", 7)] (by k_extra "ji") (by decide +kernel) (by omega) (fun o => [(7, isPt u.K o)]) (by simp) ?_ (fun _ => rfl))
          intro o ho G X' g
          have nm := nmOf g ["one", "bound"] ["is_more"] (by decide +kernel)
          have o1 := (hes o ho).sn
          exact ⟨by k_extra "jgo", by k_extra "t", fun _ => by k_extra "j"⟩
        · exact len_L lst_L (by rw [List.length_map])
        · exact rfl
      · exact rfl
      · exact rfl
      have l1 : (es.map (isPt u.K)).length ≤ 1000 := by rw [List.length_map]; omega
      have l2 : (es.filter fun o => decide (o < q)).length ≤ 1000 := by have := List.length_filter_le (fun o => decide (o < q)) es; omega
      have l3 := List.length_filter_le (fun o => decide (o < q)) es
      k_extra "insert"
      generalize (es.filter fun o => decide (o < q)).length = n at l2 l3
      refine tr_turnD (es.take n ++ [q] ++ es.drop n) rfl ⟨?_, ?_⟩ ?_
      · rw [List.length_append, List.length_append, List.length_take, List.length_drop, List.length_singleton]; omega
      · intro e he
        rcases List.mem_append.mp he with z | z
        · rcases List.mem_append.mp z with z | z
          · exact hes e (List.mem_of_mem_take z)
          · rw [List.mem_singleton.mp z]; exact hq
        · exact hes e (List.mem_of_mem_drop z)
      · rw [List.map_append, List.map_append, List.map_take, List.map_drop]
        k_extra "sub"
    · rintro es m hm ⟨hl, hes⟩
      refine tr_frz 5 rfl own_L ?_
      k_extra "retT"
      exact fun S v h => ⟨es, ⟨by omega, hes⟩, h⟩

end Wd

end

section
set_option maxRecDepth 100000
set_option maxHeartbeats 4000000
namespace Wd
open PySem PySem.Spec L2
theorem src_list {K : PySem.W.Frag} {own : List Addr} {H1 : Hp} {v : V} {P : Pr} {Ps : List Pr} (ht : LstP K P Ps) (h : P.p (hid own H1) v) : ∃ a, v = .ref a ∧ (∃ xs, SqL K H1 a xs) ∧ SrcOk (Itl K a) Ps (hid own H1) := by
  obtain ⟨a, vs, rfl, h1, h2⟩ := ht _ _ h
  refine ⟨a, rfl, ⟨vs, L2.Same.seq hid_sub h1⟩, fun i P hi own' H' s' dm => ?_, fun own' H' s' => ?_⟩
  · obtain ⟨v, e1, e2⟩ := h2.get hi
    have h3 : SqL K H' a vs := L2.Same.seq hid_sub (L2.Same.seq s' h1)
    refine ⟨⟨vs, v, h3, e1⟩, fun v' H'' y => ?_⟩
    obtain ⟨rfl, y⟩ := y
    obtain rfl : v = v' := Option.some.inj (e1.symm.trans (y vs h3))
    exact ⟨.refl _, P.mono s' e2⟩
  · exact ⟨vs, L2.Same.seq hid_sub (L2.Same.seq s' h1), by rw [h2.length]; exact Nat.le_refl _⟩
section
variable {u : Uni} {N V G : List Str} {sc : Scope} {k : Nat} {X : Cx} {Z : Zn} {Γ : List Ty} {a b c e tg iter : Expr} {P P1 P2 P3 : Pr} {Ps : List Pr} {pos p apos : Pos} {x : Str} {D : Ends} {rest sts body : List Stmt}
/-- for .. in a list that is told by more than one datum -/
theorem tr_forX {α β : Type} (g : Good u N sc k X) {Q : β → Pr} {B : β → Prop} {Qs : β → List Pr} (he : J X Z Γ iter (Pr.ex fun b => Pr.and (B b) (Q b))) (ht : ∀ b, LstP u.K (Q b) (Qs b)) (Go : β → Nat → α → List Ty) (φ : β → Nat → α → Prop) (a0 : β → α)
    (h0 : ∀ b, B b → φ b 0 (a0 b)) (hs0 : ∀ b, Sub Γ (Go b 0 (a0 b)))
    (hs : ∀ b, B b → ∀ (i : Nat) (P : Pr) (a : α) (G : Hp), (Qs b)[i]? = some P → φ b i a → ∃ l, JG X { Z with G := G } (Go b i a) tg P l ∧
      Tr X { Z with G := G } (setAll (Go b i a) l) body { D with nx := InD { Z with G := G } (Go b (i + 1)) (φ b (i + 1)), ct := InD { Z with G := G } (Go b (i + 1)) (φ b (i + 1)), bk := tWs X rest D })
    (hd : ∀ b, B b → ∀ a, φ b (Qs b).length a → Tr X Z (Go b (Qs b).length a) rest D) (hf : ∀ x, foldedSetIterable iter X.env x = pure x) : Tr X Z Γ (.For tg iter body [] pos :: rest) D := by
  obtain ⟨rfl, -, -, hc, -, hx, -⟩ := g
  refine tr_of (pss_cons (ps_for (by rw [hx]; exact PassesOwn.never) hc (pi_list peW) pgW pssW hf) pssW) fun own σ H g => he own σ H g _ fun v H1 s1 ⟨b, hB, hq⟩ => ?_
  obtain ⟨ad, rfl, sq, src⟩ := src_list (ht b) hq
  refine ⟨ad, rfl, sq, ?_⟩
  have gG := (g.grow s1).more
  have less : ∀ {own' Γ' σ' H'}, StO { Z with G := hid own H1 } own' Γ' σ' H' → StO Z own' Γ' σ' H' := fun g' => g'.less (G := Z.G) (g.grow s1).gh
  refine ⟨fun i m σ H => m = (Qs b).length - i ∧ i ≤ (Qs b).length ∧ InD { Z with G := hid own H1 } (Go b i) (φ b i) σ H, ⟨(Qs b).length, by simp, Nat.zero_le _, a0 b, own, h0 b hB, gG.sub (hs0 b)⟩, ?_⟩
  rintro i m σ' H' ⟨rfl, hi, a, own', hI, g'⟩
  by_cases hlt : i < (Qs b).length
  · obtain ⟨go, yl⟩ := src.1 i (Qs b)[i] (by rw [List.getElem?_eq_getElem hlt]) own' H' g'.gh g'.dom'
    refine .inr ⟨go, InD { Z with G := hid own H1 } (Go b (i + 1)) (φ b (i + 1)), fun σ2 H2 h2 => ⟨(Qs b).length - (i + 1), by omega, rfl, hlt, h2⟩, fun v H2 y => ?_⟩
    obtain ⟨s2, pv⟩ := yl v H2 y
    obtain ⟨l, jg, tb⟩ := hs b hB i (Qs b)[i] a (hid own H1) (by rw [List.getElem?_eq_getElem hlt]) hI
    exact jg own' σ' H2 v (g'.grow s2) pv _ fun σ3 g3 _ => tb own' σ3 H2 g3
  · obtain rfl : i = (Qs b).length := by omega
    exact .inl ⟨src.2 own' H' g'.gh, hd b hB a hI own' σ' H' (less g')⟩
theorem dat_Pt {K : PySem.W.Frag} {q : Rat} : DatP K (isPt K q) (.tuple [.int q.num, .int (q.den : Int)]) := dat_T tup_Pt (.cons dat_I (.cons dat_I .nil))
theorem shp_Pt {q : Rat} : Shp 1 (.tuple [.int q.num, .int (q.den : Int)]) := shp_tuple fun d hd => by
  rcases List.mem_cons.mp hd with rfl | hd
  · exact shp_int
  · rcases List.mem_cons.mp hd with rfl | hd
    · exact shp_int
    · cases hd
theorem cmp_pt (g : Good u N sc k X) {q r : Rat} : CmpR X .Eq (isPt u.K q) (isPt u.K r) (decide (q = r)) := by
  refine cmp_eqD g dat_Pt dat_Pt (shp_Pt.ok (by decide)) (shp_Pt.ok (by decide)) ?_
  simp only [PyData.eqv, PyData.eqvAll, Bool.and_true]
  by_cases h : q = r
  · rw [decide_eq_true h, h]; simp
  · rw [decide_eq_false h, Bool.eq_false_iff]
    intro z
    simp at z
    exact h (Rat.ext z.1 (Int.ofNat.inj z.2))
end
example : True := by
  k_with "cmp" => with_reducible exact cmp_pt g
  trivial
theorem pow_add {a b n m : Nat} (h1 : a < 2 ^ n) (h2 : b < 2 ^ n) (h : n < m) : a + b < 2 ^ m := by
  have : 2 ^ (n + 1) ≤ 2 ^ m := nat_pow_le h
  rw [Nat.pow_succ] at this
  omega
theorem lit_pow {a n : Nat} (h : a < 2 ^ 40) (hn : 40 ≤ n) : a < 2 ^ n := Nat.lt_of_lt_of_le h (nat_pow_le hn)
theorem mul_pow {a b n m k : Nat} (h1 : a < 2 ^ n) (h2 : b < 2 ^ m) (h : n + m ≤ k) : a * b < 2 ^ k := by
  have := Nat.mul_lt_mul'' h1 h2
  rw [← Nat.pow_add] at this
  exact Nat.lt_of_lt_of_le this (nat_pow_le h)
/-- a share that may be of a greater bottom -/
def ShOk (D M : Nat) (t : Rat) : Prop := ∃ w : Nat, 1 ≤ w ∧ w ≤ 240 ∧ Bd (D * w) M t
theorem S_far_share : FnS ["items", "grows", "lack", "far", "end", "weight", "change"] ["items", "grows", "lack"] ["items", "grows", "lack", "far", "end", "weight", "change"] ["NOUGHT_sharing", "ends_of", "part_of", "weight_beyond", "product", "less", "is_more", "added", "quotient"] (defScope (topS 67)) := ⟨by decide +kernel⟩
def sp_far_share (u : Uni) : Sp := fun vs H Q _ => ∃ (ss : List Sz) (b : Bool) (lack : Rat) (D M : Nat), (∀ s ∈ ss, SzOk s) ∧ (ss.length ≤ 12) ∧ (Bd D M lack) ∧ (0 ≤ lack) ∧ (LL ∣ D) ∧ (D < 2 ^ 300) ∧ (M < 2 ^ 300) ∧ Pf [isL (ss.map (isSz u.K)), isB b, isPt u.K lack] (Pr.ex fun t => Pr.and (ShOk D (M + 6000000) t) (isPt u.K t)) vs H Q
theorem jc_far_share {u : Uni} {N V G : List Str} {sc : Scope} {k l j : Nat} {X : Cx} {Z : Zn} {Γ : List Ty} {e0 e1 e2 : Expr} {pos p : Pos} {ss : List Sz} {b : Bool} {lack : Rat} {D M : Nat} (g : Good u N sc k X) (nm : Nm sc V G) (F : Callable u "far_share" l (sp_far_share u) []) (hl : Nat.ble l k = true) (hG : At G j "far_share") (ha : JA X Z Γ [e0, e1, e2] [isL (ss.map (isSz u.K)), isB b, isPt u.K lack]) (h1 : ∀ s ∈ ss, SzOk s) (h2 : ss.length ≤ 12) (h3 : Bd D M lack) (h4 : 0 ≤ lack) (h5 : LL ∣ D) (h6 : D < 2 ^ 300) (h7 : M < 2 ^ 300) (hs : starEach [e0, e1, e2] X.env = (false, eval e0 X.env) :: starEach [e1, e2] X.env) (hp : (backTo pos (starEach [e1, e2] X.env)).any (·.1) = false) : J X Z Γ (.Call (.Name "far_share" p) [e0, e1, e2] [] pos) (Pr.ex fun t => Pr.and (ShOk D (M + 6000000) t) (isPt u.K t)) :=
  j_call g F (Nat.le_of_ble_eq_true hl) (fun _ _ _ h => ⟨ss, b, lack, D, M, h1, h2, h3, h4, h5, h6, h7, h⟩) ha (nm.gl hG) hs hp
example : True := by
  k_with "call" => ((with_reducible apply jc_far_share g nm c_far_share); (· exact rfl); (· k_extra "at"); (· k_extra "ja"); (· k_extra "side"); (· k_extra "side"); (· k_extra "side"); (· k_extra "side"); (· k_extra "side"); (· k_extra "side"); (· k_extra "side"); (· exact rfl); (· exact rfl))
  trivial
theorem c_far_share {u : Uni} (bt : Bts u) (c_weight_beyond : Callable u "weight_beyond" 4 (sp_weight_beyond u) []) (c_ends_of : Callable u "ends_of" 4 (sp_ends_of u) []) (c_product : Callable u "product" 3 (sp_product u) []) (c_less : Callable u "less" 3 (sp_less u) []) (c_is_more : Callable u "is_more" 1 (sp_is_more u) []) (c_added : Callable u "added" 3 (sp_added u) []) (c_quotient : Callable u "quotient" 3 (sp_quotient u) []) (c_part_of1 : Callable u "part_of" 2 (sp_part_of u) [.int 1]) (gN : Glo u "NOUGHT_sharing" (isPt u.K 0)) (Df : Defd u "far_share" "far_share" (topS 67) []) : Callable u "far_share" 5 (sp_far_share u) [] := by
  refine fn_pure (k := 4) (ps := ["items", "grows", "lack"]) Df S_far_share.scope (fun f fd F => ⟨[], F.bindsN (fun _ _ _ _ _ _ us hl => match us, hl with | [_, _, _], _ => rfl), .nil⟩) ?_ (fun _ _ _ _ h => h)
  rintro vs H Q ⟨ss, b, lack, D, M, h1, h2, h3, h4, h5, h6, h7, h⟩
  refine ⟨_, _, rfl, h, fun X Z hM g hf => ?_⟩
  have S := S_far_share
  have nm := S.nm
  have hD := h3.pos
  have farB : ∀ q, EndOk q → Bd D 1000 q := fun q h => Bd.dvd h h5 hD
  have D4 : D < 2 ^ 400 := Nat.lt_of_lt_of_le h6 (nat_pow_le (by decide))
  have M5 : ∀ c, c < 2 ^ 40 → M + c < 2 ^ 500 := fun c hc => pow_add h7 (lit_pow hc (by decide)) (by decide)
  have Dw : ∀ w, w ≤ 240 → D * w < 2 ^ 400 := fun w hw => mul_pow h6 (lit_pow (n := 40) (by omega) (by decide)) (by decide)
  -- the answer behind the last end that is passed
  have ans : ∀ (far lk : Rat) (w : Int), EndOk far → Bd D (M + 5760000) lk → 0 < w → w ≤ 240 → Sn (w : Rat) ∧ Sn lk ∧ Sn far ∧ Sn (lk / (w : Rat)) ∧ (0 : Rat) < (w : Rat) ∧ ShOk D (M + 6000000) (far + lk / (w : Rat)) := by
    intro far lk w e1 e2 e3 e4
    obtain ⟨n, rfl⟩ : ∃ n : Nat, w = (n : Int) := ⟨w.toNat, by omega⟩
    have d := e2.divN (w := n) (by omega)
    refine ⟨sn_int (by omega), e2.sn D4 (M5 _ (by decide)), e1.sn, d.sn (Dw n (by omega)) (M5 _ (by decide)), Rat.intCast_pos.mpr e3, n, by omega, by omega, ?_⟩
    have := ((farB _ e1).times (c := n) (by omega)).add d
    exact this.mono (by omega)
  have ans0 : ∀ far, EndOk far → ShOk D (M + 6000000) far := fun far e => ⟨1, by decide, by decide, by rw [Nat.mul_one]; exact (farB _ e).mono (by omega)⟩
  k_extra "let"
  refine tr_forX g (B := fun es : List Rat => es.length ≤ ss.length ∧ ∀ e ∈ es, EndOk e) (Q := fun es => isL (es.map (isPt u.K))) (Qs := fun es => es.map (isPt u.K)) (by k_extra "j") (fun _ => lst_L)
    (fun es i (a : Rat × Rat) => [.val (isL (ss.map (isSz u.K))), .val (isB b), .val (isPt u.K a.2), .val (isPt u.K a.1), .any, .any, .any])
    (fun es i a => EndOk a.1 ∧ Bd D (M + i * 480000) a.2 ∧ 0 ≤ a.2) (fun _ => (0, lack)) (fun es _ => ⟨Bd.zero (by decide), by rw [Nat.zero_mul]; exact h3, h4⟩) (fun es => by k_extra "sub") ?_ ?_ (fun _ => rfl)
  · rintro es ⟨el, eok⟩ i P ⟨far, lk⟩ G hP ⟨f1, f2, f3⟩
    dsimp only at f1 f2 f3 ⊢
    obtain ⟨e, hr, rfl⟩ := getElem_map hP
    have hi : i < 12 := by have := get_lt hr; omega
    have eo := eok e (List.mem_of_getElem? hr)
    obtain ⟨w0, w1⟩ := wB_b (far := far) (b := b) h1 h2
    generalize hw : wB ss b far = w at w0 w1
    have s1 := eo.sn
    have s2 := f1.sn
    have s3 : Sn (w : Rat) := sn_int (by omega)
    have b4 : Bd D 2000 (e - far) := ((farB _ eo).sub (farB _ f1)).mono (by decide)
    have s4 : Sn (e - far) := b4.sn D4 (lit_pow (by decide) (by decide))
    have b5 : Bd D 480000 ((e - far) * (w : Rat)) := (b4.mulI (c := 240) (by omega)).mono (by decide)
    have s5 : Sn ((e - far) * (w : Rat)) := b5.sn D4 (lit_pow (by decide) (by decide))
    have f2' : Bd D (M + 5760000) lk := f2.mono (by omega)
    have s6 : Sn lk := f2'.sn D4 (M5 _ (by decide))
    refine ⟨_, by k_extra "jg", ?_⟩
    apply tr_let g hf S (P := isPt u.K (w : Rat))
    · k_extra "at"
    · k_extra "at"
    · rw [← hw]; k_extra "j"
    · exact rfl
    · exact rfl
    k_extra "let"
    k_extra "if"
    · intro e1
      have e1 : ¬ (e - far) * (w : Rat) < lk := by simpa using e1
      refine tr_retL (ret := Pr.ex fun t => Pr.and (ShOk D (M + 6000000) t) (isPt u.K t)) ?_ rfl
      refine j_if (by k_extra "t") (fun e2 => ?_) fun e2 => ?_
      · apply J.imp
        · k_extra "j"
        · exact fun S v h => ⟨far, ans0 _ f1, h⟩
      · have e2 : lk ≠ 0 := of_decide_eq_false e2
        have wp : 0 < w := by
          rcases Int.lt_or_eq_of_le w0 with z | z
          · exact z
          · rw [← z] at e1
            exact absurd (show (0 : Rat) < lk by grind) (by simpa using e1)
        obtain ⟨a1, a2, a3, a4, a5, a6⟩ := ans far lk w f1 f2' wp w1
        apply J.imp
        · k_extra "j"
        · exact fun S v h => ⟨_, a6, h⟩
    · intro e1
      have e1 : (e - far) * (w : Rat) < lk := by simpa using e1
      refine tr_end ?_
      k_extra "let"
      k_extra "let"
      refine tr_turnD (e, lk - (e - far) * (w : Rat)) rfl ⟨eo, ?_, by grind⟩ (by k_extra "sub")
      exact (f2.sub b5).mono (by rw [Nat.add_mul]; omega)
  · rintro es ⟨el, eok⟩ ⟨far, lk⟩ ⟨f1, f2, f3⟩
    dsimp only at f1 f2 f3 ⊢
    rw [List.length_map] at f2
    have f2' : Bd D (M + 5760000) lk := f2.mono (by have : es.length ≤ 12 := by omega
                                                    omega)
    have s6 : Sn lk := f2'.sn D4 (M5 _ (by decide))
    have s2 := f1.sn
    obtain ⟨w0, w1⟩ := wB_b (far := far) (b := b) h1 h2
    generalize hw : wB ss b far = w at w0 w1
    apply tr_let g hf S (P := isI w)
    · k_extra "at"
    · k_extra "at"
    · rw [← hw]; k_extra "j"
    · exact rfl
    · exact rfl
    k_extra "if"
    · intro e1
      apply tr_retB
      apply J.imp
      · k_extra "j"
      · exact fun S v h => ⟨far, ans0 _ f1, h⟩
    · intro e1
      have e1 : ¬ w = 0 ∧ ¬ lk = 0 := by simpa using e1
      obtain ⟨a1, a2, a3, a4, a5, a6⟩ := ans far lk w f1 f2' (by omega) w1
      refine tr_end ?_
      apply tr_retP
      apply J.imp
      · k_extra "j"
      · exact fun S v h => ⟨_, a6, h⟩

end Wd

end

section
set_option maxRecDepth 100000
set_option maxHeartbeats 4000000
namespace Wd
open PySem PySem.Spec L2
section
variable {u : Uni} {N V G : List Str} {sc : Scope} {k : Nat} {X : Cx} {Z : Zn} {Γ : List Ty} {e : Expr} {P : Pr} {pos : Pos} {D : Ends} {rest : List Stmt}
theorem tr_exprA (he : J X Z Γ e P) (hs : swapsWith e none pos.line X.env = pure false) (h : Tr X Z Γ rest D) : Tr X Z Γ (.Expr e pos :: rest) D := tr_expr he h hs
end
section
variable {u : Uni} {N V G : List Str} {sc : Scope} {k l j : Nat} {X : Cx} {Z : Zn} {Γ : List Ty} {e0 e1 : Expr} {pos p : Pos}
/-- less, the second told by more than one datum -/
theorem jc_lessX {q : Rat} {α : Type} {φ : Rat → Prop} (g : Good u N sc k X) (nm : Nm sc V G) (F : Callable u "less" l (sp_less u) []) (hl : Nat.ble l k = true) (hG : At G j "less") (ha : JA X Z Γ [e0, e1] [isPt u.K q, Pr.ex fun t => Pr.and (φ t) (isPt u.K t)]) (h1 : Md q) (h2 : ∀ t, φ t → Md t)
    (hs : starEach [e0, e1] X.env = (false, eval e0 X.env) :: starEach [e1] X.env) (hp : (backTo pos (starEach [e1] X.env)).any (·.1) = false) : J X Z Γ (.Call (.Name "less" p) [e0, e1] [] pos) (Pr.ex fun t => Pr.and (φ t) (isPt u.K (q - t))) :=
  j_call g F (Nat.le_of_ble_eq_true hl) (fun vs H Q ⟨own, dm, al, qq⟩ => by
    obtain ⟨v, w, rfl, e1, t, ht, e2⟩ := all2 al
    exact ⟨q, t, h1, h2 t ht, own, dm, .cons e1 (.cons e2 .nil), fun v H' s p => qq v H' s ⟨t, ht, p⟩⟩) ha (nm.gl hG) hs hp
end
theorem sum_take_sm {ss : List Sz} (h : ∀ s ∈ ss, SzOk s) (hl : ss.length ≤ 12) : 0 ≤ (ss.map Sz.wish).sum ∧ (ss.map Sz.wish).sum ≤ 12000 := by
  have := sum_small (ns := ss.map Sz.wish) (m := 1000) fun n hn => by
    obtain ⟨s, hs, rfl⟩ := List.mem_map.mp hn
    have a := h s hs
    exact ⟨Int.le_trans a.l0 a.lw, a.w1⟩
  rw [List.length_map] at this
  omega
theorem ShOk.neg {D M : Nat} {t : Rat} (h : ShOk D M t) : ShOk D M (0 - t) := by
  obtain ⟨w, h1, h2, h3⟩ := h
  refine ⟨w, h1, h2, ?_⟩
  have := (Bd.zero (M := 0) h3.pos).sub h3
  exact this.mono (by omega)
theorem ShOk.mono {D M N : Nat} {t : Rat} (h : ShOk D M t) (hm : M ≤ N) : ShOk D N t := by
  obtain ⟨w, h1, h2, h3⟩ := h
  exact ⟨w, h1, h2, h3.mono hm⟩
theorem ShOk.sn {D M : Nat} {t : Rat} (h : ShOk D M t) (hD : D < 2 ^ 300) (hM : M < 2 ^ 500) : Sn t := by
  obtain ⟨w, h1, h2, h3⟩ := h
  exact h3.sn (mul_pow hD (lit_pow (n := 40) (a := w) (by omega) (by decide)) (by decide)) hM
theorem num_nn {q : Rat} : 0 ≤ q.num ↔ 0 ≤ q := Rat.num_nonneg
theorem S_share_of : FnS ["items", "room", "lack", "item"] ["items", "room"] ["items", "room", "lack"] ["less", "part_of", "sum", "far_share", "NOUGHT_sharing"] (defScope (topS 68)) := ⟨by decide +kernel⟩
def sp_share_of (u : Uni) : Sp := fun vs H Q _ => ∃ (ss : List Sz) (room : Rat) (D M : Nat), (∀ s ∈ ss, SzOk s) ∧ (ss.length ≤ 12) ∧ (Bd D M room) ∧ (LL ∣ D) ∧ (D < 2 ^ 300) ∧ (M < 2 ^ 290) ∧ Pf [isL (ss.map (isSz u.K)), isPt u.K room] (Pr.ex fun t => Pr.and (ShOk D (M + 7000000) t) (isPt u.K t)) vs H Q
theorem jc_share_of {u : Uni} {N V G : List Str} {sc : Scope} {k l j : Nat} {X : Cx} {Z : Zn} {Γ : List Ty} {e0 e1 : Expr} {pos p : Pos} {ss : List Sz} {room : Rat} {D M : Nat} (g : Good u N sc k X) (nm : Nm sc V G) (F : Callable u "share_of" l (sp_share_of u) []) (hl : Nat.ble l k = true) (hG : At G j "share_of") (ha : JA X Z Γ [e0, e1] [isL (ss.map (isSz u.K)), isPt u.K room]) (h1 : ∀ s ∈ ss, SzOk s) (h2 : ss.length ≤ 12) (h3 : Bd D M room) (h4 : LL ∣ D) (h5 : D < 2 ^ 300) (h6 : M < 2 ^ 290) (hs : starEach [e0, e1] X.env = (false, eval e0 X.env) :: starEach [e1] X.env) (hp : (backTo pos (starEach [e1] X.env)).any (·.1) = false) : J X Z Γ (.Call (.Name "share_of" p) [e0, e1] [] pos) (Pr.ex fun t => Pr.and (ShOk D (M + 7000000) t) (isPt u.K t)) :=
  j_call g F (Nat.le_of_ble_eq_true hl) (fun _ _ _ h => ⟨ss, room, D, M, h1, h2, h3, h4, h5, h6, h⟩) ha (nm.gl hG) hs hp
example : True := by
  k_with "call" => ((with_reducible apply jc_share_of g nm c_share_of); (· exact rfl); (· k_extra "at"); (· k_extra "ja"); (· k_extra "side"); (· k_extra "side"); (· k_extra "side"); (· k_extra "side"); (· k_extra "side"); (· k_extra "side"); (· exact rfl); (· exact rfl))
  trivial
theorem c_share_of {u : Uni} (bt : Bts u) (c_less : Callable u "less" 3 (sp_less u) []) (c_far_share : Callable u "far_share" 5 (sp_far_share u) []) (c_part_of1 : Callable u "part_of" 2 (sp_part_of u) [.int 1]) (gN : Glo u "NOUGHT_sharing" (isPt u.K 0)) (Df : Defd u "share_of" "share_of" (topS 68) []) : Callable u "share_of" 6 (sp_share_of u) [] := by
  refine fn_pure (k := 5) (ps := ["items", "room"]) Df S_share_of.scope (fun f fd F => ⟨[], F.bindsN (fun _ _ _ _ _ _ us hl => match us, hl with | [_, _], _ => rfl), .nil⟩) ?_ (fun _ _ _ _ h => h)
  rintro vs H Q ⟨ss, room, D, M, h1, h2, h3, h4, h5, h6, h⟩
  refine ⟨_, _, rfl, h, fun X Z hM g hf => ?_⟩
  have S := S_share_of
  have nm := S.nm
  have D4 : D < 2 ^ 400 := Nat.lt_of_lt_of_le h5 (nat_pow_le (by decide))
  have M3 : ∀ c, c < 2 ^ 40 → M + c < 2 ^ 300 := fun c hc => pow_add h6 (lit_pow hc (by decide)) (by decide)
  have M5 : ∀ c, c < 2 ^ 40 → M + c < 2 ^ 500 := fun c hc => Nat.lt_of_lt_of_le (M3 c hc) (nat_pow_le (by decide))
  obtain ⟨b1, b2⟩ := sum_take_sm h1 h2
  generalize hsum : (ss.map Sz.wish).sum = sm at b1 b2
  have s1 : Sn room := h3.sn D4 (M5 0 (by decide))
  have s2 : Sn (sm : Rat) := sn_int (by omega)
  have b3 : Bd D (M + 12000) (room - (sm : Rat)) := h3.sub (Bd.int (by omega) h3.pos)
  have s3 : Sn (room - (sm : Rat)) := b3.sn D4 (M5 _ (by decide))
  have s4 := M3 12000 (by decide)
  apply tr_let g hf S (P := isPt u.K (room - (sm : Rat)))
  · k_extra "at"
  · k_extra "at"
  · apply jc_less g nm c_less rfl
    · k_extra "at"
    · apply ja_cons
      · k_extra "j"
      · apply ja_cons
        · apply jc_part_of1 g nm c_part_of1 rfl
          · k_extra "at"
          · apply ja_cons
            · rw [← hsum]
              apply jb_sum g bt nm (P := isL ((ss.map Sz.wish).map isI))
              · k_extra "at"
              · rw [List.map_map]
                refine j_comp (jn_map g (xs := ss) (A := isSz u.K) (B := isI ∘ Sz.wish) [("item", 3)] (by k_extra "ji") (by decide +kernel) (by omega) (fun s => [(3, isSz u.K s)]) (by simp) ?_ (fun _ => rfl))
                intro s hs G X' g
                have nm := nmOf g ["item"] [] (by decide +kernel)
                refine ⟨by k_extra "jgo", ?_⟩
                apply J.to
                · k_extra "j"
                · rfl
              · k_extra "lst"
              · exact rfl
            · k_extra "ja"
            · exact rfl
          · exact rfl
        · k_extra "ja"
        · exact rfl
      · exact rfl
    · exact s1.sm.md
    · exact s2.sm.md
    · exact rfl
    · exact rfl
  · exact rfl
  · exact rfl
  k_extra "if"
  · intro e
    have e := num_nn.mp (of_decide_eq_true e)
    apply tr_retB
    apply J.imp
    · apply jc_far_share g nm c_far_share rfl (D := D) (M := M + 12000)
      · k_extra "at"
      · k_extra "ja"
      · exact h1
      · exact h2
      · exact b3
      · exact e
      · exact h4
      · exact h5
      · exact s4
      · exact rfl
      · exact rfl
    · exact fun S v ⟨t, ht, h⟩ => ⟨t, ht.mono (by omega), h⟩
  · intro e
    have e : ¬ 0 ≤ room - (sm : Rat) := fun z => (of_decide_eq_false e) (num_nn.mpr z)
    have b4 : Bd D (M + 12000) (0 - (room - (sm : Rat))) := ((Bd.zero (M := 0) h3.pos).sub b3).mono (by omega)
    refine tr_end ?_
    apply tr_retP
    apply J.imp
    · apply jc_lessX (α := Rat) (q := 0) (φ := ShOk D (M + 12000 + 6000000)) g nm c_less rfl
      · k_extra "at"
      · apply ja_cons
        · k_extra "j"
        · apply ja_cons
          · apply jc_far_share g nm c_far_share rfl (D := D) (M := M + 12000) (lack := 0 - (room - (sm : Rat)))
            · k_extra "at"
            · apply ja_cons
              · k_extra "j"
              · apply ja_cons
                · k_extra "j"
                · apply ja_cons
                  · apply jc_less g nm c_less rfl
                    · k_extra "at"
                    · k_extra "ja"
                    · exact (sn_int (n := 0) (by decide)).sm.md
                    · exact s3.sm.md
                    · exact rfl
                    · exact rfl
                  · k_extra "ja"
                  · exact rfl
                · exact rfl
              · exact rfl
            · exact h1
            · exact h2
            · exact b4
            · grind
            · exact h4
            · exact h5
            · exact s4
            · exact rfl
            · exact rfl
          · k_extra "ja"
          · exact rfl
        · exact rfl
      · exact (sn_int (n := 0) (by decide)).sm.md
      · exact fun t ht => (ht.sn h5 (by rw [Nat.add_assoc]; exact M5 _ (by decide))).sm.md
      · exact rfl
      · exact rfl
    · exact fun S v ⟨t, ht, h⟩ => ⟨0 - t, ht.neg.mono (by omega), h⟩
/-- what the sharing of a line gives: widths, what is left -/
structure LwOk (D M n : Nat) (ws : List Rat) (sp : Rat) : Prop where
  w : ∃ w : Nat, 1 ≤ w ∧ w ≤ 240 ∧ (∀ x ∈ ws, Bd (D * w) (300 * M + 3000000000) x) ∧ Bd (D * w) (300 * M + 3000000000) sp
  n : ws.length = n
  nn : ∀ x ∈ ws, 0 ≤ x
  sp : 0 ≤ sp
theorem sum_bd {D M : Nat} (hD : 0 < D) : ∀ {ws : List Rat}, (∀ w ∈ ws, Bd D M w) → Bd D (ws.length * M) ws.sum
  | [], _ => Bd.zero hD
  | w :: ws, h => by
    rw [List.sum_cons, List.length_cons, Nat.succ_mul, Nat.add_comm]
    exact (h w List.mem_cons_self).add (sum_bd hD fun x hx => h x (List.mem_cons_of_mem _ hx))
theorem S_shared : FnS ["items", "room", "share", "widths", "rest", "item"] ["items", "room"] ["items", "room", "share", "widths", "rest"] ["need_items", "share_of", "less", "total_of", "greater", "NOUGHT_sharing"] (defScope (topS 69)) := ⟨by decide +kernel⟩
def sp_shared (u : Uni) : Sp := fun vs H Q _ => ∃ (ss : List Sz) (room : Rat) (D M : Nat), (∀ s ∈ ss, SzOk s) ∧ (ss.length ≤ 12) ∧ (Bd D M room) ∧ (LL ∣ D) ∧ (D < 2 ^ 300) ∧ (M < 2 ^ 280) ∧ Pf [isL (ss.map (isSz u.K)), isPt u.K room] (Pr.ex fun q : Rat × List Rat × Rat × Rat => Pr.and (LwOk D M ss.length q.2.1 q.2.2.1) (isTt [isPt u.K q.1, isL (q.2.1.map (isPt u.K)), isPt u.K q.2.2.1, isPt u.K q.2.2.2])) vs H Q
theorem jc_shared {u : Uni} {N V G : List Str} {sc : Scope} {k l j : Nat} {X : Cx} {Z : Zn} {Γ : List Ty} {e0 e1 : Expr} {pos p : Pos} {ss : List Sz} {room : Rat} {D M : Nat} (g : Good u N sc k X) (nm : Nm sc V G) (F : Callable u "shared" l (sp_shared u) []) (hl : Nat.ble l k = true) (hG : At G j "shared") (ha : JA X Z Γ [e0, e1] [isL (ss.map (isSz u.K)), isPt u.K room]) (h1 : ∀ s ∈ ss, SzOk s) (h2 : ss.length ≤ 12) (h3 : Bd D M room) (h4 : LL ∣ D) (h5 : D < 2 ^ 300) (h6 : M < 2 ^ 280) (hs : starEach [e0, e1] X.env = (false, eval e0 X.env) :: starEach [e1] X.env) (hp : (backTo pos (starEach [e1] X.env)).any (·.1) = false) : J X Z Γ (.Call (.Name "shared" p) [e0, e1] [] pos) (Pr.ex fun q : Rat × List Rat × Rat × Rat => Pr.and (LwOk D M ss.length q.2.1 q.2.2.1) (isTt [isPt u.K q.1, isL (q.2.1.map (isPt u.K)), isPt u.K q.2.2.1, isPt u.K q.2.2.2])) :=
  j_call g F (Nat.le_of_ble_eq_true hl) (fun _ _ _ h => ⟨ss, room, D, M, h1, h2, h3, h4, h5, h6, h⟩) ha (nm.gl hG) hs hp
example : True := by
  k_with "call" => ((with_reducible apply jc_shared g nm c_shared); (· exact rfl); (· k_extra "at"); (· k_extra "ja"); (· k_extra "side"); (· k_extra "side"); (· k_extra "side"); (· k_extra "side"); (· k_extra "side"); (· k_extra "side"); (· exact rfl); (· exact rfl))
  trivial
theorem c_shared {u : Uni} (bt : Bts u) (c_need_items : Callable u "need_items" 3 (sp_need_items u) []) (c_share_of : Callable u "share_of" 6 (sp_share_of u) []) (c_less : Callable u "less" 3 (sp_less u) []) (c_total_of : Callable u "total_of" 4 (sp_total_of u) []) (c_greater : Callable u "greater" 2 (sp_greater u) []) (c_width_at : Callable u "width_at" 4 (sp_width_at u) []) (gN : Glo u "NOUGHT_sharing" (isPt u.K 0)) (Df : Defd u "shared" "shared" (topS 69) []) : Callable u "shared" 7 (sp_shared u) [] := by
  refine fn_pure (k := 6) (ps := ["items", "room"]) Df S_shared.scope (fun f fd F => ⟨[], F.bindsN (fun _ _ _ _ _ _ us hl => match us, hl with | [_, _], _ => rfl), .nil⟩) ?_ (fun _ _ _ _ h => h)
  rintro vs H Q ⟨ss, room, D, M, h1, h2, h3, h4, h5, h6, h⟩
  refine ⟨_, _, rfl, h, fun X Z hM g hf => ?_⟩
  have S := S_shared
  have nm := S.nm
  have M9 : M < 2 ^ 290 := Nat.lt_of_lt_of_le h6 (nat_pow_le (by decide))
  have l1000 : ss.length ≤ 1000 := by omega
  have D4 : D < 2 ^ 400 := Nat.lt_of_lt_of_le h5 (nat_pow_le (by decide))
  apply tr_exprA
  · k_extra "j"
  · exact rfl
  apply tr_let g hf S
  · k_extra "at"
  · k_extra "at"
  · apply jc_share_of g nm c_share_of rfl (D := D) (M := M)
    · k_extra "at"
    · k_extra "ja"
    · exact h1
    · exact h2
    · exact h3
    · exact h4
    · exact h5
    · exact M9
    · exact rfl
    · exact rfl
  · exact rfl
  · exact rfl
  refine tr_ex 2 rfl fun t => tr_and 2 rfl fun ⟨w, w1, w2, bt'⟩ => ?_
  have hDw : 0 < D * w := bt'.pos
  have Dw : D * w < 2 ^ 400 := mul_pow h5 (lit_pow (n := 40) (a := w) (by omega) (by decide)) (by decide)
  have mm : ∀ a b, a < 2 ^ 40 → b < 2 ^ 40 → a * M + b < 2 ^ 400 := fun a b ha hb => pow_add (n := 350) (mul_pow ha h6 (by decide)) (lit_pow hb (by decide)) (by decide)
  have mm5 : ∀ a b, a < 2 ^ 40 → b < 2 ^ 40 → a * M + b < 2 ^ 500 := fun a b ha hb => Nat.lt_of_lt_of_le (mm a b ha hb) (nat_pow_le (by decide))
  have st : Sn t := bt'.sn Dw (by have := mm5 1 7000000 (by decide) (by decide); omega)
  have wb : ∀ x ∈ ss.map (fun s => widthAt s t), Bd (D * w) (20 * M + 140001000) x := fun x hx => by
    obtain ⟨s, hs, rfl⟩ := List.mem_map.mp hx
    exact (widthAt_bd (h1 s hs) bt').mono (by omega)
  refine tr_setC g (i := 3) (C := ownL ((ss.map (fun s => widthAt s t)).map (isPt u.K))) ?_ (At.get (by k_extra "at")) (by decide +kernel) (by decide +kernel) rfl rfl (by decide +kernel) ?_
  · rw [List.map_map]
    refine jl_map g (xs := ss) (A := isSz u.K) (B := isPt u.K ∘ fun s => widthAt s t) [("item", 5)] (by k_extra "ji") (by decide +kernel) l1000 (fun s => [(5, isSz u.K s)]) (by simp) ?_ (fun _ => rfl)
    intro s hs G X' g
    have nm := nmOf g ["item", "share"] ["width_at"] (by decide +kernel)
    have h7 := h1 s hs
    refine ⟨by k_extra "jgo", ?_⟩
    apply J.to
    · k_extra "j"
    · rfl
  refine tr_frz 3 rfl own_L ?_
  have nn : ∀ x ∈ ss.map (fun s => widthAt s t), 0 ≤ x := fun x hx => by
    obtain ⟨s, hs, rfl⟩ := List.mem_map.mp hx
    exact widthAt_nn (h1 s hs)
  have len : (ss.map (fun s => widthAt s t)).length = ss.length := List.length_map ..
  generalize ss.map (fun s => widthAt s t) = ws at wb nn len
  have tb := sum_bd hDw wb
  have tb' : Bd (D * w) (240 * M + 1680012000) ws.sum := tb.mono (by rw [len]; exact Nat.le_trans (Nat.mul_le_mul_right _ h2) (by omega))
  have ts := tb'.sn Dw (mm5 _ _ (by decide) (by decide))
  have rb : Bd (D * w) M room := h3.times (by omega)
  have rs : Sn room := rb.sn Dw (Nat.lt_of_lt_of_le h6 (nat_pow_le (by decide)))
  have b3 : Bd (D * w) (300 * M + 3000000000) (room - ws.sum) := (rb.sub tb').mono (by omega)
  have s3 := b3.sn Dw (mm5 _ _ (by decide) (by decide))
  have len2 : ws.length ≤ 1000 := by omega
  have b0 : Bd (D * w) (300 * M + 3000000000) 0 := Bd.zero hDw
  have s0 : Sn 0 := b0.sn Dw (mm5 _ _ (by decide) (by decide))
  have b4 : Bd (D * w) (300 * M + 3000000000) (0 - (room - ws.sum)) := ((Bd.zero (M := 0) hDw).sub b3).mono (by omega)
  have s4 := b4.sn Dw (mm5 _ _ (by decide) (by decide))
  apply tr_let g hf S (P := isPt u.K (room - ws.sum))
  · k_extra "at"
  · k_extra "at"
  · apply jc_less g nm c_less rfl
    · k_extra "at"
    · apply ja_cons
      · k_extra "j"
      · apply ja_cons
        · apply jc_total_of g nm c_total_of rfl (D := D * w) (M := 20 * M + 140001000)
          · k_extra "at"
          · k_extra "ja"
          · exact wb
          · exact Dw
          · exact mm _ _ (by decide) (by decide)
          · exact len2
          · exact rfl
          · exact rfl
        · k_extra "ja"
        · exact rfl
      · exact rfl
    · exact rs.sm.md
    · exact ts.sm.md
    · exact rfl
    · exact rfl
  · exact rfl
  · exact rfl
  apply tr_retP
  apply J.imp
  · k_extra "j"
  · exact fun S v h => ⟨(t, ws, max 0 (room - ws.sum), max 0 (0 - (room - ws.sum))), ⟨⟨w, w1, w2, fun x hx => (wb x hx).mono (by omega), Bd.max b0 b3⟩, len, nn, by grind⟩, h⟩

end Wd

end

section
set_option maxRecDepth 100000
set_option maxHeartbeats 4000000
namespace Wd
open PySem PySem.Spec L2
/-! ### boxes -/
inductive Bx where
  | box (n : Str) (s : Sz) (h : Int)
  | row (n : Str) (s : Sz) (sp : Int) (sd : Str) (go : Bool) (ks : List Bx)
  | col (n : Str) (s : Sz) (sp : Int) (sd : Str) (ks : List Bx)
structure Cl where
  P : Addr
  R : Addr
  C : Addr
mutual
def isBx (c : Cl) (K : PySem.W.Frag) : Bx → Pr
  | .box n s h => isIns c.P [("called", isS n), ("wished", isSz K s), ("within", isL []), ("high", isI h)]
  | .row n s sp sd go ks => isIns c.R [("called", isS n), ("wished", isSz K s), ("within", isL (isBxs c K ks)), ("space", isI sp), ("side", isS sd), ("goes_on", isB go)]
  | .col n s sp sd ks => isIns c.C [("called", isS n), ("wished", isSz K s), ("within", isL (isBxs c K ks)), ("space", isI sp), ("side", isS sd)]
def isBxs (c : Cl) (K : PySem.W.Frag) : List Bx → List Pr
  | [] => []
  | b :: bs => isBx c K b :: isBxs c K bs
end
theorem isBxs_map (c : Cl) (K : PySem.W.Frag) : ∀ bs : List Bx, isBxs c K bs = bs.map (isBx c K)
  | [] => by rw [isBxs]; rfl
  | b :: bs => by rw [isBxs, isBxs_map c K bs]; rfl
-- .. as a tree of tuples
mutual
def isTr (K : PySem.W.Frag) : Bx → Pr
  | .box n s h => isT K [isS "box", isS n, isSz K s, isI h]
  | .row n s sp sd go ks => isT K [isS "row", isS n, isSz K s, isI sp, isS sd, isB go, isT K (isTrs K ks)]
  | .col n s sp sd ks => isT K [isS "column", isS n, isSz K s, isI sp, isS sd, isT K (isTrs K ks)]
def isTrs (K : PySem.W.Frag) : List Bx → List Pr
  | [] => []
  | b :: bs => isTr K b :: isTrs K bs
end
theorem isTrs_map (K : PySem.W.Frag) : ∀ bs : List Bx, isTrs K bs = bs.map (isTr K)
  | [] => by rw [isTrs]; rfl
  | b :: bs => by rw [isTrs, isTrs_map K bs]; rfl
mutual
def Bx.dep : Bx → Nat
  | .box _ _ _ => 1
  | .row _ _ _ _ _ ks => Bx.deps ks + 1
  | .col _ _ _ _ ks => Bx.deps ks + 1
def Bx.deps : List Bx → Nat
  | [] => 0
  | b :: bs => max b.dep (Bx.deps bs)
end
theorem Bx.deps_le {n : Nat} : ∀ {bs : List Bx}, Bx.deps bs ≤ n → ∀ b ∈ bs, b.dep ≤ n
  | [], _, b, h => by cases h
  | a :: bs, h, b, hb => by
    rw [Bx.deps] at h
    rcases List.mem_cons.mp hb with rfl | hb
    · omega
    · exact Bx.deps_le (by omega) b hb
def Bx.name : Bx → Str
  | .box n _ _ => n
  | .row n _ _ _ _ _ => n
  | .col n _ _ _ _ => n
def Bx.size : Bx → Sz
  | .box _ s _ => s
  | .row _ s _ _ _ _ => s
  | .col _ s _ _ _ => s
def Bx.kids : Bx → List Bx
  | .box _ _ _ => []
  | .row _ _ _ _ _ ks => ks
  | .col _ _ _ _ ks => ks
theorem Bx.dep_kids {b : Bx} {n : Nat} (h : b.dep ≤ n + 1) : ∀ k ∈ b.kids, k.dep ≤ n := by
  cases b with
  | box => intro k hk; cases hk
  | row n s sp sd go ks => exact Bx.deps_le (bs := ks) (by rw [Bx.dep] at h; omega)
  | col n s sp sd ks => exact Bx.deps_le (bs := ks) (by rw [Bx.dep] at h; omega)
theorem Bx.dep_pos (b : Bx) : 1 ≤ b.dep := by cases b <;> rw [Bx.dep] <;> omega
mutual
def Bx.names : Bx → List Str
  | .box n _ _ => [n]
  | .row n _ _ _ _ ks => n :: Bx.namess ks
  | .col n _ _ _ ks => n :: Bx.namess ks
def Bx.namess : List Bx → List Str
  | [] => []
  | b :: bs => b.names ++ Bx.namess bs
end
theorem Bx.namess_eq : ∀ bs : List Bx, Bx.namess bs = (bs.map Bx.names).flatten
  | [] => by rw [Bx.namess]; rfl
  | b :: bs => by rw [Bx.namess, Bx.namess_eq bs]; rfl
theorem Bx.names_eq (b : Bx) : b.names = b.name :: (b.kids.map Bx.names).flatten := by
  cases b with
  | box => rw [Bx.names]; rfl
  | row => rw [Bx.names, Bx.namess_eq]; rfl
  | col => rw [Bx.names, Bx.namess_eq]; rfl
def FN : List Str := ["called", "wished", "within", "high", "space", "side", "goes_on"]
def MN : List Str := ["tree", "name", "sizes", "kids", "names", "gap", "lean", "breaks", "tall"]
structure BxC (u : Uni) (c : Cl) : Prop where
  P : CF u.K FN c.P
  R : CF u.K FN c.R
  C : CF u.K FN c.C
/-- what every box is -/
theorem isBx_ins (c : Cl) (K : PySem.W.Frag) (b : Bx) : ∃ C fs, (C = c.P ∨ C = c.R ∨ C = c.C) ∧ isBx c K b = isIns C fs ∧ List.lookup ("called" : Str) fs = some (isS b.name) ∧ List.lookup ("wished" : Str) fs = some (isSz K b.size) ∧ List.lookup ("within" : Str) fs = some (isL (b.kids.map (isBx c K))) ∧ ∀ m ∈ MN, List.lookup m fs = none := by
  cases b with
  | box n s h => exact ⟨c.P, _, .inl rfl, by rw [isBx], rfl, rfl, rfl, by intro m hm; simp only [MN, List.mem_cons, List.not_mem_nil, or_false] at hm; rcases hm with h | h | h | h | h | h | h | h | h <;> subst h <;> rfl⟩
  | row n s sp sd go ks => exact ⟨c.R, _, .inr (.inl rfl), by rw [isBx, isBxs_map], rfl, rfl, rfl, by intro m hm; simp only [MN, List.mem_cons, List.not_mem_nil, or_false] at hm; rcases hm with h | h | h | h | h | h | h | h | h <;> subst h <;> rfl⟩
  | col n s sp sd ks => exact ⟨c.C, _, .inr (.inr rfl), by rw [isBx, isBxs_map], rfl, rfl, rfl, by intro m hm; simp only [MN, List.mem_cons, List.not_mem_nil, or_false] at hm; rcases hm with h | h | h | h | h | h | h | h | h <;> subst h <;> rfl⟩
/-- a method's def, and the classes that have it -/
structure DefM (u : Uni) (Cs : List Addr) (m qual : Str) (st : Stmt) : Prop where
  ex : ∃ f fd, FunD u.K m qual (defArgs st) (defBody st) (defScope st) [] [] f fd ∧ ∀ C ∈ Cs, Cls u.K C ∧ Meth u.K C m f
section
variable {u : Uni} {N V G fn : List Str} {sc : Scope} {k : Nat} {X : Cx} {Z : Zn} {Γ : List Ty} {a b e : Expr} {P : Pr} {pos p apos : Pos} {f m : Str} {C : Addr} {fs : List (Str × Pr)}
theorem j_fldA (g : Good u N sc k X) (he : J X Z Γ a (isIns C fs)) (hf : fs.lookup f = some P) (c : CF u.K fn C) {i : Nat} (hn : At fn i f) (hb : attributeBase a f X.env (eval a X.env) = eval a X.env) : J X Z Γ (.Attribute a f pos) P := j_fld g c hn he hf hb
end
example : True := by
  k_with "j" => ((with_reducible apply j_fldA g); (· k_extra "j"); (· first | assumption | exact rfl); (· assumption); (· unfold FN; k_extra "at"); (· exact rfl))
  trivial
/-- return self.f -/
def spGet (K : PySem.W.Frag) (C : Addr) (f : Str) : Sp := fun vs H Q _ => ∃ fs P, List.lookup f fs = some P ∧ Pf [isIns C fs] P vs H Q
theorem S_Box_name : FnS ["self"] ["self"] ["self"] [] (defScope (inClass (topS 43) 2)) := ⟨by decide +kernel⟩
theorem mc_name {u : Uni} {C : Addr} {Cs : List Addr} (c : CF u.K FN C) (D : DefM u Cs "name" "Box.name" (inClass (topS 43) 2)) (hC : C ∈ Cs) : MC u C "name" 1 (spGet u.K C "called") := by
  obtain ⟨f, fd, F, h⟩ := D.ex
  obtain ⟨h1, h2⟩ := h C hC
  refine ⟨f, fd, ["self"], h1, h2, F.bindsN (fun _ _ _ _ _ _ us hl => match us, hl with | [_], _ => rfl), ?_⟩
  refine fn_pureF (k := 0) F S_Box_name.scope ?_ (fun _ _ _ _ h => h)
  rintro vs H Q ⟨fs, P, hl, h⟩
  refine ⟨_, _, rfl, h, fun X Z hM g hf => ?_⟩
  have S := S_Box_name
  have nm := S.nm
  k_extra "ret"
  rfl
theorem S_Box_sizes : FnS ["self"] ["self"] ["self"] [] (defScope (inClass (topS 43) 3)) := ⟨by decide +kernel⟩
theorem mc_sizes {u : Uni} {C : Addr} {Cs : List Addr} (c : CF u.K FN C) (D : DefM u Cs "sizes" "Box.sizes" (inClass (topS 43) 3)) (hC : C ∈ Cs) : MC u C "sizes" 1 (spGet u.K C "wished") := by
  obtain ⟨f, fd, F, h⟩ := D.ex
  obtain ⟨h1, h2⟩ := h C hC
  refine ⟨f, fd, ["self"], h1, h2, F.bindsN (fun _ _ _ _ _ _ us hl => match us, hl with | [_], _ => rfl), ?_⟩
  refine fn_pureF (k := 0) F S_Box_sizes.scope ?_ (fun _ _ _ _ h => h)
  rintro vs H Q ⟨fs, P, hl, h⟩
  refine ⟨_, _, rfl, h, fun X Z hM g hf => ?_⟩
  have S := S_Box_sizes
  have nm := S.nm
  k_extra "ret"
  rfl
theorem S_Around_gap : FnS ["self"] ["self"] ["self"] [] (defScope (inClass (topS 45) 1)) := ⟨by decide +kernel⟩
theorem mc_gap {u : Uni} {C : Addr} {Cs : List Addr} (c : CF u.K FN C) (D : DefM u Cs "gap" "Around.gap" (inClass (topS 45) 1)) (hC : C ∈ Cs) : MC u C "gap" 1 (spGet u.K C "space") := by
  obtain ⟨f, fd, F, h⟩ := D.ex
  obtain ⟨h1, h2⟩ := h C hC
  refine ⟨f, fd, ["self"], h1, h2, F.bindsN (fun _ _ _ _ _ _ us hl => match us, hl with | [_], _ => rfl), ?_⟩
  refine fn_pureF (k := 0) F S_Around_gap.scope ?_ (fun _ _ _ _ h => h)
  rintro vs H Q ⟨fs, P, hl, h⟩
  refine ⟨_, _, rfl, h, fun X Z hM g hf => ?_⟩
  have S := S_Around_gap
  have nm := S.nm
  k_extra "ret"
  rfl
theorem S_Around_lean : FnS ["self"] ["self"] ["self"] [] (defScope (inClass (topS 45) 2)) := ⟨by decide +kernel⟩
theorem mc_lean {u : Uni} {C : Addr} {Cs : List Addr} (c : CF u.K FN C) (D : DefM u Cs "lean" "Around.lean" (inClass (topS 45) 2)) (hC : C ∈ Cs) : MC u C "lean" 1 (spGet u.K C "side") := by
  obtain ⟨f, fd, F, h⟩ := D.ex
  obtain ⟨h1, h2⟩ := h C hC
  refine ⟨f, fd, ["self"], h1, h2, F.bindsN (fun _ _ _ _ _ _ us hl => match us, hl with | [_], _ => rfl), ?_⟩
  refine fn_pureF (k := 0) F S_Around_lean.scope ?_ (fun _ _ _ _ h => h)
  rintro vs H Q ⟨fs, P, hl, h⟩
  refine ⟨_, _, rfl, h, fun X Z hM g hf => ?_⟩
  have S := S_Around_lean
  have nm := S.nm
  k_extra "ret"
  rfl
theorem S_Row_breaks : FnS ["self"] ["self"] ["self"] [] (defScope (inClass (topS 46) 2)) := ⟨by decide +kernel⟩
theorem mc_breaks {u : Uni} {C : Addr} {Cs : List Addr} (c : CF u.K FN C) (D : DefM u Cs "breaks" "Row.breaks" (inClass (topS 46) 2)) (hC : C ∈ Cs) : MC u C "breaks" 1 (spGet u.K C "goes_on") := by
  obtain ⟨f, fd, F, h⟩ := D.ex
  obtain ⟨h1, h2⟩ := h C hC
  refine ⟨f, fd, ["self"], h1, h2, F.bindsN (fun _ _ _ _ _ _ us hl => match us, hl with | [_], _ => rfl), ?_⟩
  refine fn_pureF (k := 0) F S_Row_breaks.scope ?_ (fun _ _ _ _ h => h)
  rintro vs H Q ⟨fs, P, hl, h⟩
  refine ⟨_, _, rfl, h, fun X Z hM g hf => ?_⟩
  have S := S_Row_breaks
  have nm := S.nm
  k_extra "ret"
  rfl
theorem S_Plain_tall : FnS ["self"] ["self"] ["self"] [] (defScope (inClass (topS 44) 2)) := ⟨by decide +kernel⟩
theorem mc_tall {u : Uni} {C : Addr} {Cs : List Addr} (c : CF u.K FN C) (D : DefM u Cs "tall" "Plain.tall" (inClass (topS 44) 2)) (hC : C ∈ Cs) : MC u C "tall" 1 (spGet u.K C "high") := by
  obtain ⟨f, fd, F, h⟩ := D.ex
  obtain ⟨h1, h2⟩ := h C hC
  refine ⟨f, fd, ["self"], h1, h2, F.bindsN (fun _ _ _ _ _ _ us hl => match us, hl with | [_], _ => rfl), ?_⟩
  refine fn_pureF (k := 0) F S_Plain_tall.scope ?_ (fun _ _ _ _ h => h)
  rintro vs H Q ⟨fs, P, hl, h⟩
  refine ⟨_, _, rfl, h, fun X Z hM g hf => ?_⟩
  have S := S_Plain_tall
  have nm := S.nm
  k_extra "ret"
  rfl
theorem S_Box_breaks : FnS ["self"] ["self"] ["self"] [] (defScope (inClass (topS 43) 9)) := ⟨by decide +kernel⟩
def spNo : Sp := fun vs H Q _ => ∃ C fs, Pf [isIns C fs] (isB false) vs H Q
theorem mc_nobreaks {u : Uni} {C : Addr} {Cs : List Addr} (D : DefM u Cs "breaks" "Box.breaks" (inClass (topS 43) 9)) (hC : C ∈ Cs) : MC u C "breaks" 1 spNo := by
  obtain ⟨f, fd, F, h⟩ := D.ex
  obtain ⟨h1, h2⟩ := h C hC
  refine ⟨f, fd, ["self"], h1, h2, F.bindsN (fun _ _ _ _ _ _ us hl => match us, hl with | [_], _ => rfl), ?_⟩
  refine fn_pureF (k := 0) F S_Box_breaks.scope ?_ (fun _ _ _ _ h => h)
  rintro vs H Q ⟨C', fs, h⟩
  refine ⟨_, _, rfl, h, fun X Z hM g hf => ?_⟩
  k_extra "ret"
  rfl
theorem S_Box_kids : FnS ["self"] ["self"] ["self"] ["list"] (defScope (inClass (topS 43) 4)) := ⟨by decide +kernel⟩
/-- list(self.within) -/
def spKids (C : Addr) : Sp := fun vs H Q _ => ∃ fs Ps, List.lookup ("within" : Str) fs = some (isL Ps) ∧ Pf [isIns C fs] (isL Ps) vs H Q
theorem mc_kids {u : Uni} {C : Addr} {Cs : List Addr} (bt : Bts u) (c : CF u.K FN C) (D : DefM u Cs "kids" "Box.kids" (inClass (topS 43) 4)) (hC : C ∈ Cs) : MC u C "kids" 1 (spKids C) := by
  obtain ⟨f, fd, F, h⟩ := D.ex
  obtain ⟨h1, h2⟩ := h C hC
  refine ⟨f, fd, ["self"], h1, h2, F.bindsN (fun _ _ _ _ _ _ us hl => match us, hl with | [_], _ => rfl), ?_⟩
  refine fn_pureF (k := 0) F S_Box_kids.scope ?_ (fun _ _ _ _ h => h)
  rintro vs H Q ⟨fs, Ps, hl, h⟩
  refine ⟨_, _, rfl, h, fun X Z hM g hf => ?_⟩
  have S := S_Box_kids
  have nm := S.nm
  apply tr_retP
  exact J.new (by k_extra "jn") own_L
/-! ### the methods of any box -/
/-- the methods, at their levels -/
structure BxM (u : Uni) (c : Cl) : Prop where
  cf : BxC u c
  name : ∀ C ∈ [c.P, c.R, c.C], MC u C "name" 1 (spGet u.K C "called")
  sizes : ∀ C ∈ [c.P, c.R, c.C], MC u C "sizes" 1 (spGet u.K C "wished")
  kids : ∀ C ∈ [c.P, c.R, c.C], MC u C "kids" 1 (spKids C)
  gap : ∀ C ∈ [c.R, c.C], MC u C "gap" 1 (spGet u.K C "space")
  lean : ∀ C ∈ [c.R, c.C], MC u C "lean" 1 (spGet u.K C "side")
  breaks : MC u c.R "breaks" 1 (spGet u.K c.R "goes_on")
  nobreaks : MC u c.C "breaks" 1 spNo
  tall : MC u c.P "tall" 1 (spGet u.K c.P "high")
theorem bxm {u : Uni} {c : Cl} (bt : Bts u) (cf : BxC u c)
    (d_name : DefM u [c.P, c.R, c.C] "name" "Box.name" (inClass (topS 43) 2)) (d_sizes : DefM u [c.P, c.R, c.C] "sizes" "Box.sizes" (inClass (topS 43) 3)) (d_kids : DefM u [c.P, c.R, c.C] "kids" "Box.kids" (inClass (topS 43) 4))
    (d_gap : DefM u [c.R, c.C] "gap" "Around.gap" (inClass (topS 45) 1)) (d_lean : DefM u [c.R, c.C] "lean" "Around.lean" (inClass (topS 45) 2)) (d_breaks : DefM u [c.R] "breaks" "Row.breaks" (inClass (topS 46) 2))
    (d_nobreaks : DefM u [c.C] "breaks" "Box.breaks" (inClass (topS 43) 9)) (d_tall : DefM u [c.P] "tall" "Plain.tall" (inClass (topS 44) 2)) : BxM u c := by
  have all : ∀ C ∈ [c.P, c.R, c.C], CF u.K FN C := fun C h => by
    simp only [List.mem_cons, List.not_mem_nil, or_false] at h
    rcases h with h | h | h <;> subst h
    · exact cf.P
    · exact cf.R
    · exact cf.C
  have two : ∀ C ∈ [c.R, c.C], CF u.K FN C := fun C h => all C (List.mem_cons_of_mem _ h)
  exact ⟨cf, fun C h => mc_name (all C h) d_name h, fun C h => mc_sizes (all C h) d_sizes h, fun C h => mc_kids bt (all C h) d_kids h, fun C h => mc_gap (two C h) d_gap h, fun C h => mc_lean (two C h) d_lean h,
    mc_breaks cf.R d_breaks List.mem_cons_self, mc_nobreaks d_nobreaks List.mem_cons_self, mc_tall cf.P d_tall List.mem_cons_self⟩
section
variable {u : Uni} {N V G fn : List Str} {sc : Scope} {k : Nat} {X : Cx} {Z : Zn} {Γ : List Ty} {a e : Expr} {P : Pr} {pos p apos : Pos} {f m : Str} {c : Cl} {b : Bx} {pl : Sem Bool}
theorem mem3 {c : Cl} {C : Addr} (h : C = c.P ∨ C = c.R ∨ C = c.C) : C ∈ [c.P, c.R, c.C] := by
  rcases h with h | h | h <;> subst h <;> simp
theorem jm_name (g : Good u N sc k X) (M : BxM u c) (hk : Nat.ble 1 k = true) (he : J X Z Γ a (isBx c u.K b)) (ht : eval (.Call (.Attribute a "name" apos) [] [] pos) X.env = (do
      let ov ← eval a X.env
      standAt apos.atName
      let (f, first) ← holding [ov] (getMethod ov "name" pl)
      callWith pos f first (backTo pos (starEach [] X.env)) (backToKw pos (keywordEach [] X.env)))) : J X Z Γ (.Call (.Attribute a "name" apos) [] [] pos) (isS b.name) := by
  obtain ⟨C, fs, hC, e, h1, h2, h3, h4⟩ := isBx_ins c u.K b
  rw [e] at he
  exact j_meth0 g (M.name C (mem3 hC)) (Nat.le_of_ble_eq_true hk) (fun _ _ _ h => ⟨fs, _, h1, h⟩) he (h4 _ (by simp [MN])) ht
theorem jm_sizes (g : Good u N sc k X) (M : BxM u c) (hk : Nat.ble 1 k = true) (he : J X Z Γ a (isBx c u.K b)) (ht : eval (.Call (.Attribute a "sizes" apos) [] [] pos) X.env = (do
      let ov ← eval a X.env
      standAt apos.atName
      let (f, first) ← holding [ov] (getMethod ov "sizes" pl)
      callWith pos f first (backTo pos (starEach [] X.env)) (backToKw pos (keywordEach [] X.env)))) : J X Z Γ (.Call (.Attribute a "sizes" apos) [] [] pos) (isSz u.K b.size) := by
  obtain ⟨C, fs, hC, e, h1, h2, h3, h4⟩ := isBx_ins c u.K b
  rw [e] at he
  exact j_meth0 g (M.sizes C (mem3 hC)) (Nat.le_of_ble_eq_true hk) (fun _ _ _ h => ⟨fs, _, h2, h⟩) he (h4 _ (by simp [MN])) ht
theorem jm_kids (g : Good u N sc k X) (M : BxM u c) (hk : Nat.ble 1 k = true) (he : J X Z Γ a (isBx c u.K b)) (ht : eval (.Call (.Attribute a "kids" apos) [] [] pos) X.env = (do
      let ov ← eval a X.env
      standAt apos.atName
      let (f, first) ← holding [ov] (getMethod ov "kids" pl)
      callWith pos f first (backTo pos (starEach [] X.env)) (backToKw pos (keywordEach [] X.env)))) : J X Z Γ (.Call (.Attribute a "kids" apos) [] [] pos) (isL (b.kids.map (isBx c u.K))) := by
  obtain ⟨C, fs, hC, e, h1, h2, h3, h4⟩ := isBx_ins c u.K b
  rw [e] at he
  exact j_meth0 g (M.kids C (mem3 hC)) (Nat.le_of_ble_eq_true hk) (fun _ _ _ h => ⟨fs, _, h3, h⟩) he (h4 _ (by simp [MN])) ht
end
example : True := by
  k_with "call" => ((with_reducible apply jm_name g bm); (· exact rfl); (· k_extra "j"); (· exact rfl))
  k_with "call" => ((with_reducible apply jm_sizes g bm); (· exact rfl); (· k_extra "j"); (· exact rfl))
  k_with "call" => ((with_reducible apply jm_kids g bm); (· exact rfl); (· k_extra "j"); (· exact rfl))
  k_with "jn" => ((with_reducible apply jnb_list g bt nm); (· k_extra "at"); (· k_extra "j"); (· first | exact lst_L | k_extra "lst"); (· exact rfl))
  trivial

end Wd

end

section
set_option maxRecDepth 100000
set_option maxHeartbeats 4000000
namespace Wd
open PySem PySem.Spec L2
def Bx.isB : Bx → Bool
  | .box _ _ _ => true
  | _ => false
def Bx.space : Bx → Int
  | .box _ _ _ => 0
  | .row _ _ sp _ _ _ => sp
  | .col _ _ sp _ _ => sp
def Bx.side : Bx → Str
  | .box _ _ _ => "left"
  | .row _ _ _ sd _ _ => sd
  | .col _ _ _ sd _ => sd
def Bx.goes : Bx → Bool
  | .row _ _ _ _ go _ => go
  | _ => false
def Bx.high : Bx → Int
  | .box _ _ h => h
  | _ => 0
theorem isBx_in2 (c : Cl) (K : PySem.W.Frag) (b : Bx) (h : b.isB = false) : ∃ C fs, C ∈ [c.R, c.C] ∧ isBx c K b = isIns C fs ∧ List.lookup ("space" : Str) fs = some (isI b.space) ∧ List.lookup ("side" : Str) fs = some (isS b.side) ∧ ∀ m ∈ MN, List.lookup m fs = none := by
  cases b with
  | box n s h => cases h
  | row n s sp sd go ks => exact ⟨c.R, _, by simp, by rw [isBx, isBxs_map], rfl, rfl, by intro m hm; simp only [MN, List.mem_cons, List.not_mem_nil, or_false] at hm; rcases hm with h | h | h | h | h | h | h | h | h <;> subst h <;> rfl⟩
  | col n s sp sd ks => exact ⟨c.C, _, by simp, by rw [isBx, isBxs_map], rfl, rfl, by intro m hm; simp only [MN, List.mem_cons, List.not_mem_nil, or_false] at hm; rcases hm with h | h | h | h | h | h | h | h | h <;> subst h <;> rfl⟩
section
variable {u : Uni} {N V G fn : List Str} {sc : Scope} {k : Nat} {X : Cx} {Z : Zn} {Γ : List Ty} {a e : Expr} {P : Pr} {pos p apos : Pos} {f m : Str} {c : Cl} {b : Bx} {pl : Sem Bool}
theorem jm_gap (g : Good u N sc k X) (M : BxM u c) (hk : Nat.ble 1 k = true) (he : J X Z Γ a (isBx c u.K b)) (hb : b.isB = false) (ht : eval (.Call (.Attribute a "gap" apos) [] [] pos) X.env = (do
      let ov ← eval a X.env
      standAt apos.atName
      let (f, first) ← holding [ov] (getMethod ov "gap" pl)
      callWith pos f first (backTo pos (starEach [] X.env)) (backToKw pos (keywordEach [] X.env)))) : J X Z Γ (.Call (.Attribute a "gap" apos) [] [] pos) (isI b.space) := by
  obtain ⟨C, fs, hC, e, h1, h2, h4⟩ := isBx_in2 c u.K b hb
  rw [e] at he
  exact j_meth0 g (M.gap C hC) (Nat.le_of_ble_eq_true hk) (fun _ _ _ h => ⟨fs, _, h1, h⟩) he (h4 _ (by simp [MN])) ht
theorem jm_lean (g : Good u N sc k X) (M : BxM u c) (hk : Nat.ble 1 k = true) (he : J X Z Γ a (isBx c u.K b)) (hb : b.isB = false) (ht : eval (.Call (.Attribute a "lean" apos) [] [] pos) X.env = (do
      let ov ← eval a X.env
      standAt apos.atName
      let (f, first) ← holding [ov] (getMethod ov "lean" pl)
      callWith pos f first (backTo pos (starEach [] X.env)) (backToKw pos (keywordEach [] X.env)))) : J X Z Γ (.Call (.Attribute a "lean" apos) [] [] pos) (isS b.side) := by
  obtain ⟨C, fs, hC, e, h1, h2, h4⟩ := isBx_in2 c u.K b hb
  rw [e] at he
  exact j_meth0 g (M.lean C hC) (Nat.le_of_ble_eq_true hk) (fun _ _ _ h => ⟨fs, _, h2, h⟩) he (h4 _ (by simp [MN])) ht
theorem jm_breaks (g : Good u N sc k X) (M : BxM u c) (hk : Nat.ble 1 k = true) (he : J X Z Γ a (isBx c u.K b)) (hb : b.isB = false) (ht : eval (.Call (.Attribute a "breaks" apos) [] [] pos) X.env = (do
      let ov ← eval a X.env
      standAt apos.atName
      let (f, first) ← holding [ov] (getMethod ov "breaks" pl)
      callWith pos f first (backTo pos (starEach [] X.env)) (backToKw pos (keywordEach [] X.env)))) : J X Z Γ (.Call (.Attribute a "breaks" apos) [] [] pos) (isB b.goes) := by
  cases b with
  | box n s h => cases hb
  | row n s sp sd go ks =>
    rw [isBx] at he
    exact j_meth0 g M.breaks (Nat.le_of_ble_eq_true hk) (fun _ _ _ h => ⟨_, isB go, rfl, h⟩) he rfl ht
  | col n s sp sd ks =>
    rw [isBx] at he
    exact j_meth0 g M.nobreaks (Nat.le_of_ble_eq_true hk) (fun _ _ _ h => ⟨_, _, h⟩) he rfl ht
theorem jm_tall {n : Str} {s : Sz} {h : Int} (g : Good u N sc k X) (M : BxM u c) (hk : Nat.ble 1 k = true) (he : J X Z Γ a (isBx c u.K (.box n s h))) (ht : eval (.Call (.Attribute a "tall" apos) [] [] pos) X.env = (do
      let ov ← eval a X.env
      standAt apos.atName
      let (f, first) ← holding [ov] (getMethod ov "tall" pl)
      callWith pos f first (backTo pos (starEach [] X.env)) (backToKw pos (keywordEach [] X.env)))) : J X Z Γ (.Call (.Attribute a "tall" apos) [] [] pos) (isI h) := by
  rw [isBx] at he
  exact j_meth0 g M.tall (Nat.le_of_ble_eq_true hk) (fun _ _ _ h' => ⟨_, isI h, rfl, h'⟩) he rfl ht
/-- any method of any box, one promise -/
theorem jm_any {l : Nat} {sp : Sp} {ret : Pr} (g : Good u N sc k X) (M : ∀ C ∈ [c.P, c.R, c.C], MC u C m l sp) (hm : m ∈ MN) (hk : l ≤ k) (hsp : ∀ vs H Q, Pf [isBx c u.K b] ret vs H Q → sp vs H Q E0) (he : J X Z Γ a (isBx c u.K b)) (ht : eval (.Call (.Attribute a m apos) [] [] pos) X.env = (do
      let ov ← eval a X.env
      standAt apos.atName
      let (f, first) ← holding [ov] (getMethod ov m pl)
      callWith pos f first (backTo pos (starEach [] X.env)) (backToKw pos (keywordEach [] X.env)))) : J X Z Γ (.Call (.Attribute a m apos) [] [] pos) ret := by
  obtain ⟨C, fs, hC, e, h1, h2, h3, h4⟩ := isBx_ins c u.K b
  rw [e] at he
  exact j_meth0 g (M C (mem3 hC)) hk (fun vs H Q h => hsp _ _ _ (by rw [e]; exact h)) he (h4 _ hm) ht
end
example : True := by
  k_with "call" => ((with_reducible apply jm_gap g bm); (· exact rfl); (· k_extra "j"); (· k_extra "side"); (· exact rfl))
  k_with "call" => ((with_reducible apply jm_lean g bm); (· exact rfl); (· k_extra "j"); (· k_extra "side"); (· exact rfl))
  k_with "call" => ((with_reducible apply jm_breaks g bm); (· exact rfl); (· k_extra "j"); (· k_extra "side"); (· exact rfl))
  k_with "call" => ((with_reducible apply jm_tall g bm); (· exact rfl); (· k_extra "j"); (· exact rfl))
  trivial
/-! ### names() -/
theorem S_Box_names : FnS ["self", "told", "kid"] ["self"] ["self", "told", "kid"] [] (defScope (inClass (topS 43) 5)) := ⟨by decide +kernel⟩
def spNames (c : Cl) (K : PySem.W.Frag) (n : Nat) : Sp := fun vs H Q _ => ∃ b : Bx, b.dep ≤ n ∧ b.names.length ≤ 1000 ∧ Pf [isBx c K b] (isL (b.names.map isS)) vs H Q
theorem names_part {ks : List Bx} {i : Nat} {kd : Bx} (h : ks[i]? = some kd) : ((ks.take (i + 1)).map Bx.names).flatten = ((ks.take i).map Bx.names).flatten ++ kd.names := by
  rw [List.take_succ, h]
  simp
theorem flat_take_le {ks : List Bx} (i : Nat) : ((ks.take i).map Bx.names).flatten.length ≤ (ks.map Bx.names).flatten.length := by
  conv => rhs; rw [← List.take_append_drop i ks]
  rw [List.map_append, List.flatten_append, List.length_append]
  omega
theorem fn_names {u : Uni} {c : Cl} (cf : BxC u c) {f : Addr} {fd : FuncData} (F : FunD u.K "names" "Box.names" (defArgs (inClass (topS 43) 5)) (defBody (inClass (topS 43) 5)) (defScope (inClass (topS 43) 5)) [] [] f fd) (hM : ∀ C ∈ [c.P, c.R, c.C], Cls u.K C ∧ Meth u.K C "names" f) :
    ∀ n, FnOk u.P u.w u.K u.mg u.base CX0 (n + 1) f fd ["self"] (spNames c u.K n)
  | 0 => fn_pureF (k := 0) F S_Box_names.scope (fun vs H Q ⟨b, h, _⟩ => absurd h (by have := b.dep_pos; omega)) (fun _ _ _ _ h => h)
  | n + 1 => by
    have ih := fn_names cf F hM n
    have bd := F.bindsN (ps := ["self"]) (fun _ _ _ _ _ _ us hl => match us, hl with | [_], _ => rfl)
    have M : ∀ C ∈ [c.P, c.R, c.C], MC u C "names" (n + 1) (spNames c u.K n) := fun C hC => ⟨f, fd, ["self"], (hM C hC).1, (hM C hC).2, bd, ih⟩
    refine fn_pureF (k := n + 1) F S_Box_names.scope ?_ (fun _ _ _ _ h => h)
    rintro vs H Q ⟨b, hd, hl, h⟩
    obtain ⟨C, fs, hC, e, h1, h2, h3, h4⟩ := isBx_ins c u.K b
    rw [e] at h
    have cfC : CF u.K FN C := by
      rcases hC with h | h | h <;> subst h
      · exact cf.P
      · exact cf.R
      · exact cf.C
    refine ⟨_, _, rfl, h, fun X Z hM g hf => ?_⟩
    have S := S_Box_names
    have nm := S.nm
    rw [Bx.names_eq] at hl ⊢
    rw [List.length_cons] at hl
    k_extra "letN"
    refine tr_forD g (Ps := b.kids.map (isBx c u.K)) (ji_list g (P := isL (b.kids.map (isBx c u.K))) (by k_extra "j") lst_L) (fun i (a : List Str) => [.val (isIns C fs), .own true (ownL (a.map isS)), .any])
      (fun i a => a = b.name :: ((b.kids.take i).map Bx.names).flatten) [b.name] rfl (by k_extra "sub") ?_ ?_ (fun _ => rfl)
    · rintro i P a G hP rfl
      obtain ⟨kd, hr, rfl⟩ := getElem_map hP
      have dk := Bx.dep_kids hd kd (List.mem_of_getElem? hr)
      have ft := flat_take_le (ks := b.kids) (i + 1)
      rw [names_part hr, List.length_append] at ft
      have lk : kd.names.length ≤ 1000 := by omega
      have ext : ((b.name :: ((b.kids.take i).map Bx.names).flatten).map isS).length + (kd.names.map isS).length ≤ 1000 := by rw [List.length_map, List.length_cons, List.length_map]; omega
      refine ⟨_, by k_extra "jg", ?_⟩
      apply tr_extendA g hf S
      · k_extra "at"
      · k_extra "at"
      · exact rfl
      · apply jm_any (c := c) (b := kd) g M (by simp [MN]) (Nat.le_refl _) (fun vs H Q h => ⟨kd, dk, lk, h⟩)
        · k_extra "j"
        · exact rfl
      · exact ext
      refine tr_turnD _ rfl rfl ?_
      rw [names_part hr, ← List.cons_append, List.map_append]
      k_extra "sub"
    · rintro a rfl
      rw [List.length_map, List.take_length]
      refine tr_frz 1 rfl own_L ?_
      k_extra "ret"
      rfl
/-! ### tree() -/
theorem S_Plain_tree : FnS ["self"] ["self"] ["self"] [] (defScope (inClass (topS 44) 1)) := ⟨by decide +kernel⟩
theorem S_Row_tree : FnS ["self", "trees", "kid"] ["self"] ["self", "trees"] ["tuple"] (defScope (inClass (topS 46) 1)) := ⟨by decide +kernel⟩
theorem S_Column_tree : FnS ["self", "kid"] ["self"] ["self"] ["tuple"] (defScope (inClass (topS 47) 0)) := ⟨by decide +kernel⟩
-- no box has too many within
mutual
def Bx.few : Bx → Prop
  | .box _ _ _ => True
  | .row _ _ _ _ _ ks => ks.length ≤ 12 ∧ Bx.fews ks
  | .col _ _ _ _ ks => ks.length ≤ 12 ∧ Bx.fews ks
def Bx.fews : List Bx → Prop
  | [] => True
  | b :: bs => b.few ∧ Bx.fews bs
end
theorem Bx.fews_all : ∀ {bs : List Bx}, Bx.fews bs → ∀ b ∈ bs, b.few
  | a :: bs, h, b, hb => by
    rw [Bx.fews] at h
    rcases List.mem_cons.mp hb with rfl | hb
    · exact h.1
    · exact Bx.fews_all h.2 b hb
theorem Bx.few_kids {b : Bx} (h : b.few) : b.kids.length ≤ 12 ∧ ∀ k ∈ b.kids, k.few := by
  cases b with
  | box n s h => exact ⟨by show 0 ≤ 12; decide, fun k hk => by cases hk⟩
  | row n s sp sd go ks => rw [Bx.few] at h; exact ⟨h.1, Bx.fews_all h.2⟩
  | col n s sp sd ks => rw [Bx.few] at h; exact ⟨h.1, Bx.fews_all h.2⟩
def spTree (c : Cl) (K : PySem.W.Frag) (n : Nat) : Sp := fun vs H Q _ => ∃ b : Bx, b.dep ≤ n ∧ b.few ∧ Pf [isBx c K b] (isTr K b) vs H Q
def spTreeC (c : Cl) (K : PySem.W.Frag) (n : Nat) (C : Addr) (φ : Bx → Prop) : Sp := fun vs H Q _ => ∃ b : Bx, φ b ∧ b.dep ≤ n ∧ b.few ∧ Pf [isBx c K b] (isTr K b) vs H Q
/-- the three defs -/
structure TreeF (u : Uni) (c : Cl) (f1 f2 f3 : Addr) (d1 d2 d3 : FuncData) : Prop where
  F1 : FunD u.K "tree" "Plain.tree" (defArgs (inClass (topS 44) 1)) (defBody (inClass (topS 44) 1)) (defScope (inClass (topS 44) 1)) [] [] f1 d1
  F2 : FunD u.K "tree" "Row.tree" (defArgs (inClass (topS 46) 1)) (defBody (inClass (topS 46) 1)) (defScope (inClass (topS 46) 1)) [] [] f2 d2
  F3 : FunD u.K "tree" "Column.tree" (defArgs (inClass (topS 47) 0)) (defBody (inClass (topS 47) 0)) (defScope (inClass (topS 47) 0)) [] [] f3 d3
  M1 : Meth u.K c.P "tree" f1
  M2 : Meth u.K c.R "tree" f2
  M3 : Meth u.K c.C "tree" f3
def isRow : Bx → Prop
  | .row _ _ _ _ _ _ => True
  | _ => False
def isCol : Bx → Prop
  | .col _ _ _ _ _ => True
  | _ => False
structure TreeN (u : Uni) (c : Cl) (n : Nat) : Prop where
  p : MC u c.P "tree" 1 (spTreeC c u.K n c.P (fun b => b.isB = true))
  r : MC u c.R "tree" (n + 1) (spTreeC c u.K n c.R isRow)
  c : MC u c.C "tree" (n + 1) (spTreeC c u.K n c.C isCol)
theorem jm_tree {u : Uni} {N : List Str} {sc : Scope} {k n : Nat} {X : Cx} {Z : Zn} {Γ : List Ty} {a : Expr} {pos apos : Pos} {c : Cl} {b : Bx} {pl : Sem Bool} (g : Good u N sc k X) (M : TreeN u c n) (hk : n + 1 ≤ k) (hd : b.dep ≤ n) (hw : b.few) (he : J X Z Γ a (isBx c u.K b)) (ht : eval (.Call (.Attribute a "tree" apos) [] [] pos) X.env = (do
      let ov ← eval a X.env
      standAt apos.atName
      let (f, first) ← holding [ov] (getMethod ov "tree" pl)
      callWith pos f first (backTo pos (starEach [] X.env)) (backToKw pos (keywordEach [] X.env)))) : J X Z Γ (.Call (.Attribute a "tree" apos) [] [] pos) (isTr u.K b) := by
  cases b with
  | box n s h =>
    rw [isBx] at he
    exact j_meth0 g M.p (Nat.le_trans (Nat.le_add_left 1 _) hk) (fun vs H Q h' => ⟨_, rfl, hd, hw, by rw [isBx]; exact h'⟩) he rfl ht
  | row n s sp sd go ks =>
    rw [isBx] at he
    exact j_meth0 g M.r hk (fun vs H Q h' => ⟨.row n s sp sd go ks, trivial, hd, hw, by rw [isBx]; exact h'⟩) he rfl ht
  | col n s sp sd ks =>
    rw [isBx] at he
    exact j_meth0 g M.c hk (fun vs H Q h' => ⟨.col n s sp sd ks, trivial, hd, hw, by rw [isBx]; exact h'⟩) he rfl ht
theorem trees {u : Uni} {c : Cl} {f1 f2 f3 : Addr} {d1 d2 d3 : FuncData} (bt : Bts u) (cf : BxC u c) (T : TreeF u c f1 f2 f3 d1 d2 d3) : ∀ n, TreeN u c n := by
  have b1 := T.F1.bindsN (ps := ["self"]) (fun _ _ _ _ _ _ us hl => match us, hl with | [_], _ => rfl)
  have b2 := T.F2.bindsN (ps := ["self"]) (fun _ _ _ _ _ _ us hl => match us, hl with | [_], _ => rfl)
  have b3 := T.F3.bindsN (ps := ["self"]) (fun _ _ _ _ _ _ us hl => match us, hl with | [_], _ => rfl)
  have c1 := cf.P
  have c2 := cf.R
  have c3 := cf.C
  have p : ∀ n, MC u c.P "tree" 1 (spTreeC c u.K n c.P (fun b => b.isB = true)) := fun n => by
    refine ⟨f1, d1, ["self"], cf.P.cls, T.M1, b1, ?_⟩
    refine fn_pureF (k := 0) T.F1 S_Plain_tree.scope ?_ (fun _ _ _ _ h => h)
    rintro vs H Q ⟨b, hb, hd, hw, h⟩
    cases b with
    | row => cases hb
    | col => cases hb
    | box n s hi =>
      rw [isBx] at h
      refine ⟨_, _, rfl, h, fun X Z hM g hf => ?_⟩
      have S := S_Plain_tree
      have nm := S.nm
      rw [isTr]
      apply tr_retP
      apply J.imp
      · k_extra "j"
      · exact fun S v h => tt_T S v h
  intro n
  induction n with
  | zero =>
    refine ⟨p 0, ⟨f2, d2, ["self"], cf.R.cls, T.M2, b2, ?_⟩, ⟨f3, d3, ["self"], cf.C.cls, T.M3, b3, ?_⟩⟩
    · exact fn_pureF (k := 0) T.F2 S_Row_tree.scope (fun vs H Q ⟨b, _, h, _⟩ => absurd h (by have := b.dep_pos; omega)) (fun _ _ _ _ h => h)
    · exact fn_pureF (k := 0) T.F3 S_Column_tree.scope (fun vs H Q ⟨b, _, h, _⟩ => absurd h (by have := b.dep_pos; omega)) (fun _ _ _ _ h => h)
  | succ n ih =>
    refine ⟨p (n + 1), ⟨f2, d2, ["self"], cf.R.cls, T.M2, b2, ?_⟩, ⟨f3, d3, ["self"], cf.C.cls, T.M3, b3, ?_⟩⟩
    · refine fn_pureF (k := n + 1) T.F2 S_Row_tree.scope ?_ (fun _ _ _ _ h => h)
      rintro vs H Q ⟨b, hb, hd, hw, h⟩
      cases b with
      | box => cases hb
      | col => cases hb
      | row nm' s sp sd go ks =>
        have kd := Bx.dep_kids hd
        obtain ⟨w1, w2⟩ := Bx.few_kids hw
        have w1 : ks.length ≤ 12 := w1
        rw [isBx, isBxs_map] at h
        refine ⟨_, _, rfl, h, fun X Z hM g hf => ?_⟩
        have S := S_Row_tree
        have nm := S.nm
        rw [isTr, isTrs_map]
        apply tr_let g hf S (P := isT u.K (ks.map (isTr u.K)))
        · k_extra "at"
        · k_extra "at"
        · apply jb_tuple g bt nm (P := isL (ks.map (isTr u.K)))
          · k_extra "at"
          · refine j_comp (jn_map g (xs := ks) (A := isBx c u.K) (B := isTr u.K) [("kid", 2)] (ji_list g (P := isL (ks.map (isBx c u.K))) (by k_extra "j") lst_L) (by decide +kernel) (by omega) (fun b => [(2, isBx c u.K b)]) (by simp) ?_ (fun _ => rfl))
            intro b hbk G X' g
            have nm := nmOf g ["kid"] [] (by decide +kernel)
            refine ⟨by k_extra "jgo", ?_⟩
            apply jm_tree g ih (Nat.le_refl _) (kd b hbk) (w2 b hbk)
            · k_extra "j"
            · exact rfl
          · k_extra "lst"
          · exact rfl
        · exact rfl
        · exact rfl
        apply tr_retP
        apply J.imp
        · k_extra "j"
        · exact fun S v h => tt_T S v h
    · refine fn_pureF (k := n + 1) T.F3 S_Column_tree.scope ?_ (fun _ _ _ _ h => h)
      rintro vs H Q ⟨b, hb, hd, hw, h⟩
      cases b with
      | box => cases hb
      | row => cases hb
      | col nm' s sp sd ks =>
        have kd := Bx.dep_kids hd
        obtain ⟨w1, w2⟩ := Bx.few_kids hw
        have w1 : ks.length ≤ 12 := w1
        rw [isBx, isBxs_map] at h
        refine ⟨_, _, rfl, h, fun X Z hM g hf => ?_⟩
        have S := S_Column_tree
        have nm := S.nm
        rw [isTr, isTrs_map]
        apply tr_retP
        apply J.imp
        · apply j_tup g (Ps := [isS "column", isS nm', isSz u.K s, isI sp, isS sd, isT u.K (ks.map (isTr u.K))])
          · apply ja_cons
            · k_extra "j"
            · apply ja_cons
              · k_extra "j"
              · apply ja_cons
                · k_extra "j"
                · apply ja_cons
                  · k_extra "j"
                  · apply ja_cons
                    · k_extra "j"
                    · apply ja_cons
                      · apply jb_tuple g bt nm (P := isL (ks.map (isTr u.K)))
                        · k_extra "at"
                        · refine j_comp (jn_map g (xs := ks) (A := isBx c u.K) (B := isTr u.K) [("kid", 1)] (ji_list g (P := isL (ks.map (isBx c u.K))) (by k_extra "j") lst_L) (by decide +kernel) (by omega) (fun b => [(1, isBx c u.K b)]) (by simp) ?_ (fun _ => rfl))
                          intro b hbk G X' g
                          have nm := nmOf g ["kid"] [] (by decide +kernel)
                          refine ⟨by k_extra "jgo", ?_⟩
                          apply jm_tree g ih (Nat.le_refl _) (kd b hbk) (w2 b hbk)
                          · k_extra "j"
                          · exact rfl
                        · k_extra "lst"
                        · exact rfl
                      · k_extra "ja"
                      · exact rfl
                    · exact rfl
                  · exact rfl
                · exact rfl
              · exact rfl
            · exact rfl
          · exact Nat.le_of_ble_eq_true rfl
        · exact fun S v h => tt_T S v h

end Wd

end

section
set_option maxRecDepth 100000
set_option maxHeartbeats 4000000
namespace Wd
open PySem PySem.Spec L2
/-! ### __init__ -/
section
variable {u : Uni} {N V G fn : List Str} {sc : Scope} {k : Nat} {X : Cx} {Z : Zn} {Γ : List Ty} {a e : Expr} {es : List Expr} {P : Pr} {Ps : List Pr} {pos p apos : Pos} {f m x : Str} {C : Addr} {fs fs0 fs1 : List (Str × Pr)} {D : Ends} {rest : List Stmt} {pl : Sem Bool}
theorem tr_fldsetA (g : Good u N sc k X) (nm : Nm sc V G) {y : Str} {py pf : Pos} {i j r : Nat} {l : Bool} (hN : At N i y) (hV : At V j y) (hΓ : Γ[i]? = some (.own l (ownI C fs))) (c : CF u.K fn C) (hn : At fn r f) (hl : Nat.ble fs.length 100 = true) (he : J X Z Γ e P)
    (hs : swapsWith e (some (.Attribute (.Name y py) f pf)) pos.line X.env = pure false) (h : Tr X Z (Γ.set i (.own l (ownI C (putP f P fs)))) rest D) : Tr X Z Γ (.Assign [.Attribute (.Name y py) f pf] e pos :: rest) D :=
  tr_fldset g c hn hN.get (nm.var hV) hΓ (Nat.le_of_ble_eq_true hl) he hs h
end
example : True := by
  k_with "fldset" => first | (apply tr_fldsetA g nm; (· k_extra "at"); (· k_extra "at"); (· exact rfl); (· assumption); (· unfold FN; k_extra "at"); (· exact rfl); (· k_extra "j"); (· exact rfl)) | fail
  trivial
theorem S_Box___init__ : FnS ["self", "called", "wished"] ["self", "called", "wished"] ["self", "called", "wished"] [] (defScope (inClass (topS 43) 0)) := ⟨by decide +kernel⟩
theorem S_Plain___init__ : FnS ["self", "called", "wished", "high"] ["self", "called", "wished", "high"] ["self", "called", "wished", "high"] ["Box"] (defScope (inClass (topS 44) 0)) := ⟨by decide +kernel⟩
theorem S_Around___init__ : FnS ["self", "called", "wished", "space", "side", "within"] ["self", "called", "wished", "space", "side", "within"] ["self", "called", "wished", "space", "side", "within"] ["Box", "list"] (defScope (inClass (topS 45) 0)) := ⟨by decide +kernel⟩
theorem S_Row___init__ : FnS ["self", "called", "wished", "space", "side", "goes_on", "within"] ["self", "called", "wished", "space", "side", "goes_on", "within"] ["self", "called", "wished", "space", "side", "goes_on", "within"] ["Around"] (defScope (inClass (topS 46) 0)) := ⟨by decide +kernel⟩
def fB (P1 P2 : Pr) : List (Str × Pr) := [("called", P1), ("wished", P2), ("within", isL [])]
def spBoxI (K : PySem.W.Frag) : Sp := fun vs H Q _ => ∃ C P1 P2, CF K FN C ∧ Pi C [] [P1, P2] (fB P1 P2) vs H Q
/-- x.__init__, reached by the class's name -/
structure DefI (u : Uni) (x qual : Str) (st : Stmt) : Prop where
  ex : ∃ C mc f fd, u.mg x = some (.ref C) ∧ ClX.CRead u.K C mc ∧ PySem.W.findCls u.K (.ref C) mc "__init__" = some (.val (.ref f)) ∧ FunD u.K "__init__" qual (defArgs st) (defBody st) (defScope st) [] [] f fd
/-- x(..) makes by it -/
structure DefMk (u : Uni) (x qual : Str) (C : Addr) (st : Stmt) : Prop where
  ex : ∃ f fd, u.mg x = some (.ref C) ∧ Mk u.K C f ∧ FunD u.K "__init__" qual (defArgs st) (defBody st) (defScope st) [] [] f fd
theorem ok_boxI {u : Uni} {f : Addr} {fd : FuncData} (F : FunD u.K "__init__" "Box.__init__" (defArgs (inClass (topS 43) 0)) (defBody (inClass (topS 43) 0)) (defScope (inClass (topS 43) 0)) [] [] f fd) : FnOk u.P u.w u.K u.mg u.base CX0 1 f fd ["self", "called", "wished"] (spBoxI u.K) := by
  refine fn_init (k := 0) F S_Box___init__.scope ?_ (fun _ _ _ _ h => h)
  rintro vs H Q ⟨C, P1, P2, c, h⟩
  refine ⟨_, _, _, _, rfl, h, fun X Z g hf => ?_⟩
  have S := S_Box___init__
  have nm := S.nm
  k_extra "fldset"
  k_extra "fldset"
  k_extra "fldset"
  exact tr_offI rfl
theorem ic_box {u : Uni} (D : DefI u "Box" "Box.__init__" (inClass (topS 43) 0)) : IC u "Box" "__init__" 1 (spBoxI u.K) := by
  obtain ⟨C, mc, f, fd, h1, h2, h3, F⟩ := D.ex
  exact ⟨C, mc, f, fd, _, h1, h2, h3, F.kp, F.bindsN (fun _ _ _ _ _ _ us hl => match us, hl with | [_, _, _], _ => rfl), ok_boxI F⟩
theorem ok_plainI {u : Uni} (I : IC u "Box" "__init__" 1 (spBoxI u.K)) {f : Addr} {fd : FuncData} (F : FunD u.K "__init__" "Plain.__init__" (defArgs (inClass (topS 44) 0)) (defBody (inClass (topS 44) 0)) (defScope (inClass (topS 44) 0)) [] [] f fd) :
    FnOk u.P u.w u.K u.mg u.base CX0 2 f fd ["self", "called", "wished", "high"] (fun vs H Q _ => ∃ C P1 P2 P3, CF u.K FN C ∧ Pi C [] [P1, P2, P3] [("called", P1), ("wished", P2), ("within", isL []), ("high", P3)] vs H Q) := by
  refine fn_init (k := 1) F S_Plain___init__.scope ?_ (fun _ _ _ _ h => h)
  rintro vs H Q ⟨C, P1, P2, P3, c, h⟩
  refine ⟨_, _, _, _, rfl, h, fun X Z g hf => ?_⟩
  have S := S_Plain___init__
  have nm := S.nm
  refine tr_icall (Ps := [P1, P2]) (fs0 := []) (fs1 := fB P1 P2) g I (Nat.le_refl _) (i := 0) rfl (nm.var (At.here)) rfl (fun _ _ _ h => ⟨C, P1, P2, c, h⟩) (by k_extra "ja") (nm.gl (by k_extra "at")) rfl rfl rfl rfl ?_
  k_extra "fldset"
  exact tr_offI rfl
def fA (P1 P2 P3 P4 : Pr) (Ps : List Pr) : List (Str × Pr) := [("called", P1), ("wished", P2), ("within", isL Ps), ("space", P3), ("side", P4)]
def fR (P1 P2 P3 P4 P5 : Pr) (Ps : List Pr) : List (Str × Pr) := [("called", P1), ("wished", P2), ("within", isL Ps), ("space", P3), ("side", P4), ("goes_on", P5)]
def spArI (K : PySem.W.Frag) : Sp := fun vs H Q _ => ∃ C P1 P2 P3 P4 Ps, CF K FN C ∧ Pi C [] [P1, P2, P3, P4, isL Ps] (fA P1 P2 P3 P4 Ps) vs H Q
theorem ok_aroundI {u : Uni} (bt : Bts u) (I : IC u "Box" "__init__" 1 (spBoxI u.K)) {f : Addr} {fd : FuncData} (F : FunD u.K "__init__" "Around.__init__" (defArgs (inClass (topS 45) 0)) (defBody (inClass (topS 45) 0)) (defScope (inClass (topS 45) 0)) [] [] f fd) :
    FnOk u.P u.w u.K u.mg u.base CX0 2 f fd ["self", "called", "wished", "space", "side", "within"] (spArI u.K) := by
  refine fn_init (k := 1) F S_Around___init__.scope ?_ (fun _ _ _ _ h => h)
  rintro vs H Q ⟨C, P1, P2, P3, P4, Ps, c, h⟩
  refine ⟨_, _, _, _, rfl, h, fun X Z g hf => ?_⟩
  have S := S_Around___init__
  have nm := S.nm
  refine tr_icall (Ps := [P1, P2]) (fs0 := []) (fs1 := fB P1 P2) g I (Nat.le_refl _) (i := 0) rfl (nm.var (At.here)) rfl (fun _ _ _ h => ⟨C, P1, P2, c, h⟩) (by k_extra "ja") (nm.gl (by k_extra "at")) rfl rfl rfl rfl ?_
  k_extra "fldset"
  k_extra "fldset"
  refine tr_fldsetA g nm (P := isL Ps) (by k_extra "at") (by k_extra "at") rfl c (show At FN 2 "within" from by unfold FN; k_extra "at") rfl ?_ rfl ?_
  · exact J.new (by k_extra "jn") own_L
  exact tr_offI rfl
theorem ic_around {u : Uni} (bt : Bts u) (I : IC u "Box" "__init__" 1 (spBoxI u.K)) (D : DefI u "Around" "Around.__init__" (inClass (topS 45) 0)) : IC u "Around" "__init__" 2 (spArI u.K) := by
  obtain ⟨C, mc, f, fd, h1, h2, h3, F⟩ := D.ex
  exact ⟨C, mc, f, fd, _, h1, h2, h3, F.kp, F.bindsN (fun _ _ _ _ _ _ us hl => match us, hl with | [_, _, _, _, _, _], _ => rfl), ok_aroundI bt I F⟩
theorem ok_rowI {u : Uni} (I : IC u "Around" "__init__" 2 (spArI u.K)) {f : Addr} {fd : FuncData} (F : FunD u.K "__init__" "Row.__init__" (defArgs (inClass (topS 46) 0)) (defBody (inClass (topS 46) 0)) (defScope (inClass (topS 46) 0)) [] [] f fd) :
    FnOk u.P u.w u.K u.mg u.base CX0 3 f fd ["self", "called", "wished", "space", "side", "goes_on", "within"] (fun vs H Q _ => ∃ C P1 P2 P3 P4 P5 Ps, CF u.K FN C ∧ Pi C [] [P1, P2, P3, P4, P5, isL Ps] (fR P1 P2 P3 P4 P5 Ps) vs H Q) := by
  refine fn_init (k := 2) F S_Row___init__.scope ?_ (fun _ _ _ _ h => h)
  rintro vs H Q ⟨C, P1, P2, P3, P4, P5, Ps, c, h⟩
  refine ⟨_, _, _, _, rfl, h, fun X Z g hf => ?_⟩
  have S := S_Row___init__
  have nm := S.nm
  refine tr_icall (Ps := [P1, P2, P3, P4, isL Ps]) (fs0 := []) (fs1 := fA P1 P2 P3 P4 Ps) g I (Nat.le_refl _) (i := 0) rfl (nm.var (At.here)) rfl (fun _ _ _ h => ⟨C, P1, P2, P3, P4, Ps, c, h⟩) (by k_extra "ja") (nm.gl (by k_extra "at")) rfl rfl rfl rfl ?_
  k_extra "fldset"
  exact tr_offI rfl
section
variable {u : Uni} {N V G : List Str} {sc : Scope} {k : Nat} {X : Cx} {Z : Zn} {Γ : List Ty} {e0 e1 e2 e3 e4 e5 : Expr} {pos p : Pos} {c : Cl} {j : Nat} {n sd : Str} {s : Sz} {h sp : Int} {go : Bool} {ks : List Bx}
/-- the three classes make boxes -/
structure BxMk (u : Uni) (c : Cl) : Prop where
  cf : BxC u c
  P : MkC u "Plain" c.P 2 (fun vs H Q _ => ∃ C P1 P2 P3, CF u.K FN C ∧ Pi C [] [P1, P2, P3] [("called", P1), ("wished", P2), ("within", isL []), ("high", P3)] vs H Q)
  R : MkC u "Row" c.R 3 (fun vs H Q _ => ∃ C P1 P2 P3 P4 P5 Ps, CF u.K FN C ∧ Pi C [] [P1, P2, P3, P4, P5, isL Ps] (fR P1 P2 P3 P4 P5 Ps) vs H Q)
  C : MkC u "Column" c.C 2 (spArI u.K)
theorem bxmk (bt : Bts u) (cf : BxC u c) (i1 : DefI u "Box" "Box.__init__" (inClass (topS 43) 0)) (i2 : DefI u "Around" "Around.__init__" (inClass (topS 45) 0))
    (m1 : DefMk u "Plain" "Plain.__init__" c.P (inClass (topS 44) 0)) (m2 : DefMk u "Row" "Row.__init__" c.R (inClass (topS 46) 0)) (m3 : DefMk u "Column" "Around.__init__" c.C (inClass (topS 45) 0)) : BxMk u c := by
  have I1 := ic_box i1
  have I2 := ic_around bt I1 i2
  obtain ⟨f1, d1, a1, b1, F1⟩ := m1.ex
  obtain ⟨f2, d2, a2, b2, F2⟩ := m2.ex
  obtain ⟨f3, d3, a3, b3, F3⟩ := m3.ex
  exact ⟨cf, ⟨f1, d1, _, a1, b1, F1.bindsN (fun _ _ _ _ _ _ us hl => match us, hl with | [_, _, _, _], _ => rfl), ok_plainI I1 F1⟩,
    ⟨f2, d2, _, a2, b2, F2.bindsN (fun _ _ _ _ _ _ us hl => match us, hl with | [_, _, _, _, _, _, _], _ => rfl), ok_rowI I2 F2⟩,
    ⟨f3, d3, _, a3, b3, F3.bindsN (fun _ _ _ _ _ _ us hl => match us, hl with | [_, _, _, _, _, _], _ => rfl), ok_aroundI bt I1 F3⟩⟩
theorem jk_plain (g : Good u N sc k X) (nm : Nm sc V G) (M : BxMk u c) (hk : 3 ≤ k) (hG : At G j "Plain") (ha : JA X Z Γ [e0, e1, e2] [isS n, isSz u.K s, isI h])
    (hs : starEach [e0, e1, e2] X.env = (false, eval e0 X.env) :: starEach [e1, e2] X.env) (hp : (backTo pos (starEach [e1, e2] X.env)).any (·.1) = false) : J X Z Γ (.Call (.Name "Plain" p) [e0, e1, e2] [] pos) (isBx c u.K (.box n s h)) := by
  rw [isBx]
  exact J.new (jn_make g M.P hk (fun _ _ _ h => ⟨_, _, _, _, M.cf.P, h⟩) ha (nm.gl hG) hs hp) own_I
theorem jk_col (g : Good u N sc k X) (nm : Nm sc V G) (M : BxMk u c) (hk : 3 ≤ k) (hG : At G j "Column") (ha : JA X Z Γ [e0, e1, e2, e3, e4] [isS n, isSz u.K s, isI sp, isS sd, isL (ks.map (isBx c u.K))])
    (hs : starEach [e0, e1, e2, e3, e4] X.env = (false, eval e0 X.env) :: starEach [e1, e2, e3, e4] X.env) (hp : (backTo pos (starEach [e1, e2, e3, e4] X.env)).any (·.1) = false) : J X Z Γ (.Call (.Name "Column" p) [e0, e1, e2, e3, e4] [] pos) (isBx c u.K (.col n s sp sd ks)) := by
  rw [isBx, isBxs_map]
  exact J.new (jn_make g M.C hk (fun _ _ _ h => ⟨_, _, _, _, _, _, M.cf.C, h⟩) ha (nm.gl hG) hs hp) own_I
theorem jk_row (g : Good u N sc k X) (nm : Nm sc V G) (M : BxMk u c) (hk : 4 ≤ k) (hG : At G j "Row") (ha : JA X Z Γ [e0, e1, e2, e3, e4, e5] [isS n, isSz u.K s, isI sp, isS sd, isB go, isL (ks.map (isBx c u.K))])
    (hs : starEach [e0, e1, e2, e3, e4, e5] X.env = (false, eval e0 X.env) :: starEach [e1, e2, e3, e4, e5] X.env) (hp : (backTo pos (starEach [e1, e2, e3, e4, e5] X.env)).any (·.1) = false) : J X Z Γ (.Call (.Name "Row" p) [e0, e1, e2, e3, e4, e5] [] pos) (isBx c u.K (.row n s sp sd go ks)) := by
  rw [isBx, isBxs_map]
  exact J.new (jn_make g M.R hk (fun _ _ _ h => ⟨_, _, _, _, _, _, _, M.cf.R, h⟩) ha (nm.gl hG) hs hp) own_I
end

end Wd

end

section
set_option maxRecDepth 100000
set_option maxHeartbeats 4000000
namespace Wd
open PySem PySem.Spec L2
/-! ### what is checked -/
section
variable {u : Uni} {N V G : List Str} {sc : Scope} {k : Nat} {X : Cx} {Z : Zn} {Γ : List Ty} {a b e tg : Expr} {P P1 P2 : Pr} {Ps : List Pr} {pos p : Pos}
end
example : True := by
  k_with "cmp" => first | with_reducible exact cmp_inC | with_reducible exact cmp_ninC
  k_with "ji" => ((with_reducible apply ji_str); (· k_extra "j"))
  trivial
theorem S_need : FnS ["good"] ["good"] ["good"] ["NoBox"] (defScope (topS 48)) := ⟨by decide +kernel⟩
def sp_need (u : Uni) : Sp := fun vs H Q _ => Pf [isB true] (isN) vs H Q
theorem jc_need {u : Uni} {N V G : List Str} {sc : Scope} {k l j : Nat} {X : Cx} {Z : Zn} {Γ : List Ty} {e0 : Expr} {pos p : Pos}  (g : Good u N sc k X) (nm : Nm sc V G) (F : Callable u "need" l (sp_need u) []) (hl : Nat.ble l k = true) (hG : At G j "need") (ha : JA X Z Γ [e0] [isB true])  (hs : starEach [e0] X.env = (false, eval e0 X.env) :: starEach [] X.env) (hp : (backTo pos (starEach [] X.env)).any (·.1) = false) : J X Z Γ (.Call (.Name "need" p) [e0] [] pos) (isN) :=
  j_call g F (Nat.le_of_ble_eq_true hl) (fun _ _ _ h => h) ha (nm.gl hG) hs hp
example : True := by
  k_with "call" => ((with_reducible apply jc_need g nm c_need); (· exact rfl); (· k_extra "at"); (· k_extra "ja"); (· exact rfl); (· exact rfl))
  trivial
theorem c_need {u : Uni} (Df : Defd u "need" "need" (topS 48) []) : Callable u "need" 1 (sp_need u) [] := by
  refine fn_pure (k := 0) (ps := ["good"]) Df S_need.scope (fun f fd F => ⟨[], F.bindsN (fun _ _ _ _ _ _ us hl => match us, hl with | [_], _ => rfl), .nil⟩) ?_ (fun _ _ _ _ h => h)
  rintro vs H Q h
  refine ⟨_, _, rfl, h, fun X Z hM g hf => ?_⟩
  have S := S_need
  have nm := S.nm
  k_extra "skip"
  exact tr_off
theorem S_is_size : FnS ["thing"] ["thing"] ["thing"] ["is_whole", "MOST_SIZE_boxes"] (defScope (topS 40)) := ⟨by decide +kernel⟩
def sp_is_size (u : Uni) : Sp := fun vs H Q _ => ∃ (n : Int), (0 ≤ n) ∧ (n ≤ 1000) ∧ Pf [isI n] (isB true) vs H Q
theorem jc_is_size {u : Uni} {N V G : List Str} {sc : Scope} {k l j : Nat} {X : Cx} {Z : Zn} {Γ : List Ty} {e0 : Expr} {pos p : Pos} {n : Int} (g : Good u N sc k X) (nm : Nm sc V G) (F : Callable u "is_size" l (sp_is_size u) []) (hl : Nat.ble l k = true) (hG : At G j "is_size") (ha : JA X Z Γ [e0] [isI n]) (h1 : 0 ≤ n) (h2 : n ≤ 1000) (hs : starEach [e0] X.env = (false, eval e0 X.env) :: starEach [] X.env) (hp : (backTo pos (starEach [] X.env)).any (·.1) = false) : J X Z Γ (.Call (.Name "is_size" p) [e0] [] pos) (isB true) :=
  j_call g F (Nat.le_of_ble_eq_true hl) (fun _ _ _ h => ⟨n, h1, h2, h⟩) ha (nm.gl hG) hs hp
example : True := by
  k_with "call" => ((with_reducible apply jc_is_size g nm c_is_size); (· exact rfl); (· k_extra "at"); (· k_extra "ja"); (· k_extra "side"); (· k_extra "side"); (· exact rfl); (· exact rfl))
  trivial
theorem c_is_size {u : Uni} (c_is_whole : Callable u "is_whole" 1 (sp_is_whole u) []) (gS : Glo u "MOST_SIZE_boxes" (isI 1000)) (Df : Defd u "is_size" "is_size" (topS 40) []) : Callable u "is_size" 2 (sp_is_size u) [] := by
  refine fn_pure (k := 1) (ps := ["thing"]) Df S_is_size.scope (fun f fd F => ⟨[], F.bindsN (fun _ _ _ _ _ _ us hl => match us, hl with | [_], _ => rfl), .nil⟩) ?_ (fun _ _ _ _ h => h)
  rintro vs H Q ⟨n, h1, h2, h⟩
  refine ⟨_, _, rfl, h, fun X Z hM g hf => ?_⟩
  have S := S_is_size
  have nm := S.nm
  k_extra "ret"
  rw [decide_eq_true h1, decide_eq_true h2]
  rfl
theorem S_is_weight : FnS ["thing"] ["thing"] ["thing"] ["is_whole", "MOST_WEIGHT_boxes"] (defScope (topS 41)) := ⟨by decide +kernel⟩
def sp_is_weight (u : Uni) : Sp := fun vs H Q _ => ∃ (n : Int), (0 ≤ n) ∧ (n ≤ 20) ∧ Pf [isI n] (isB true) vs H Q
theorem jc_is_weight {u : Uni} {N V G : List Str} {sc : Scope} {k l j : Nat} {X : Cx} {Z : Zn} {Γ : List Ty} {e0 : Expr} {pos p : Pos} {n : Int} (g : Good u N sc k X) (nm : Nm sc V G) (F : Callable u "is_weight" l (sp_is_weight u) []) (hl : Nat.ble l k = true) (hG : At G j "is_weight") (ha : JA X Z Γ [e0] [isI n]) (h1 : 0 ≤ n) (h2 : n ≤ 20) (hs : starEach [e0] X.env = (false, eval e0 X.env) :: starEach [] X.env) (hp : (backTo pos (starEach [] X.env)).any (·.1) = false) : J X Z Γ (.Call (.Name "is_weight" p) [e0] [] pos) (isB true) :=
  j_call g F (Nat.le_of_ble_eq_true hl) (fun _ _ _ h => ⟨n, h1, h2, h⟩) ha (nm.gl hG) hs hp
example : True := by
  k_with "call" => ((with_reducible apply jc_is_weight g nm c_is_weight); (· exact rfl); (· k_extra "at"); (· k_extra "ja"); (· k_extra "side"); (· k_extra "side"); (· exact rfl); (· exact rfl))
  trivial
theorem c_is_weight {u : Uni} (c_is_whole : Callable u "is_whole" 1 (sp_is_whole u) []) (gW : Glo u "MOST_WEIGHT_boxes" (isI 20)) (Df : Defd u "is_weight" "is_weight" (topS 41) []) : Callable u "is_weight" 2 (sp_is_weight u) [] := by
  refine fn_pure (k := 1) (ps := ["thing"]) Df S_is_weight.scope (fun f fd F => ⟨[], F.bindsN (fun _ _ _ _ _ _ us hl => match us, hl with | [_], _ => rfl), .nil⟩) ?_ (fun _ _ _ _ h => h)
  rintro vs H Q ⟨n, h1, h2, h⟩
  refine ⟨_, _, rfl, h, fun X Z hM g hf => ?_⟩
  have S := S_is_weight
  have nm := S.nm
  k_extra "ret"
  rw [decide_eq_true h1, decide_eq_true h2]
  rfl
theorem S_are_sizes : FnS ["thing"] ["thing"] ["thing"] ["isinstance", "tuple", "len", "is_size", "is_weight"] (defScope (topS 42)) := ⟨by decide +kernel⟩
def sp_are_sizes (u : Uni) : Sp := fun vs H Q _ => ∃ (s : Sz), (SzOk s) ∧ Pf [isSz u.K s] (isB true) vs H Q
theorem jc_are_sizes {u : Uni} {N V G : List Str} {sc : Scope} {k l j : Nat} {X : Cx} {Z : Zn} {Γ : List Ty} {e0 : Expr} {pos p : Pos} {s : Sz} (g : Good u N sc k X) (nm : Nm sc V G) (F : Callable u "are_sizes" l (sp_are_sizes u) []) (hl : Nat.ble l k = true) (hG : At G j "are_sizes") (ha : JA X Z Γ [e0] [isSz u.K s]) (h1 : SzOk s) (hs : starEach [e0] X.env = (false, eval e0 X.env) :: starEach [] X.env) (hp : (backTo pos (starEach [] X.env)).any (·.1) = false) : J X Z Γ (.Call (.Name "are_sizes" p) [e0] [] pos) (isB true) :=
  j_call g F (Nat.le_of_ble_eq_true hl) (fun _ _ _ h => ⟨s, h1, h⟩) ha (nm.gl hG) hs hp
example : True := by
  k_with "call" => ((with_reducible apply jc_are_sizes g nm c_are_sizes); (· exact rfl); (· k_extra "at"); (· k_extra "ja"); (· k_extra "side"); (· exact rfl); (· exact rfl))
  trivial
theorem c_are_sizes {u : Uni} (bt : Bts u) (c_is_size : Callable u "is_size" 2 (sp_is_size u) []) (c_is_weight : Callable u "is_weight" 2 (sp_is_weight u) []) (Df : Defd u "are_sizes" "are_sizes" (topS 42) []) : Callable u "are_sizes" 3 (sp_are_sizes u) [] := by
  refine fn_pure (k := 2) (ps := ["thing"]) Df S_are_sizes.scope (fun f fd F => ⟨[], F.bindsN (fun _ _ _ _ _ _ us hl => match us, hl with | [_], _ => rfl), .nil⟩) ?_ (fun _ _ _ _ h => h)
  rintro vs H Q ⟨s, h1, h⟩
  refine ⟨_, _, rfl, h, fun X Z hM g hf => ?_⟩
  have S := S_are_sizes
  have nm := S.nm
  obtain ⟨w, l, m, gr, sh⟩ := s
  obtain ⟨q1, q2, q3, q4, q5, q6, q7, q8⟩ := h1
  dsimp only at q1 q2 q3 q4 q5 q6 q7 q8
  have q9 : 0 ≤ w := Int.le_trans q1 q2
  have q10 : l ≤ 1000 := Int.le_trans q2 q3
  cases m with
  | none =>
    k_extra "skip"
    apply tr_skip
    · apply JT.to
      · k_extra "t"
      · rw [decide_eq_false (by omega)]; rfl
    k_extra "ret"
    rfl
  | some m =>
    obtain ⟨m1, m2⟩ := q4 m rfl
    have m3 : 0 ≤ m := by omega
    k_extra "skip"
    apply tr_skip
    · apply JT.to
      · k_extra "t"
      · rw [decide_eq_false (by omega)]; rfl
    k_extra "ret"
    rw [decide_eq_true m1]
    rfl
/-- a name that is allowed -/
structure NmOk (s : Str) : Prop where
  l1 : 1 ≤ s.length
  l8 : s.length ≤ 8
  c0 : ∃ c, s.cps.toList[0]? = some c ∧ c ∈ lettersS.cps.toList
  all : ∀ c ∈ s.cps.toList, c ∈ signsS.cps.toList
  kept : s ∉ keptL
theorem ascii_ok {s : Str} (h : ∀ c ∈ s.cps.toList, c < 128) : PyData.strOk s = true := by
  unfold PyData.strOk
  rw [← Array.all_toList, List.all_eq_true]
  intro c hc
  have := h c hc
  exact decide_eq_true (by omega)
theorem signs_lt : ∀ c ∈ signsS.cps.toList, c < 128 := by decide +kernel
theorem NmOk.ok {s : Str} (h : NmOk s) : PyData.strOk s = true := ascii_ok fun c hc => signs_lt c (h.all c hc)
theorem len_cps (s : Str) : s.length = s.cps.toList.length := by
  rw [Array.length_toList]; rfl
theorem S_is_name : FnS ["thing", "sign"] ["thing"] ["thing"] ["isinstance", "str", "len", "MOST_SIGNS", "LETTERS", "all", "KEPT"] (defScope (topS 39)) := ⟨by decide +kernel⟩
def sp_is_name (u : Uni) : Sp := fun vs H Q _ => ∃ (s : Str), (NmOk s) ∧ Pf [isS s] (isB true) vs H Q
theorem jc_is_name {u : Uni} {N V G : List Str} {sc : Scope} {k l j : Nat} {X : Cx} {Z : Zn} {Γ : List Ty} {e0 : Expr} {pos p : Pos} {s : Str} (g : Good u N sc k X) (nm : Nm sc V G) (F : Callable u "is_name" l (sp_is_name u) []) (hl : Nat.ble l k = true) (hG : At G j "is_name") (ha : JA X Z Γ [e0] [isS s]) (h1 : NmOk s) (hs : starEach [e0] X.env = (false, eval e0 X.env) :: starEach [] X.env) (hp : (backTo pos (starEach [] X.env)).any (·.1) = false) : J X Z Γ (.Call (.Name "is_name" p) [e0] [] pos) (isB true) :=
  j_call g F (Nat.le_of_ble_eq_true hl) (fun _ _ _ h => ⟨s, h1, h⟩) ha (nm.gl hG) hs hp
example : True := by
  k_with "call" => ((with_reducible apply jc_is_name g nm c_is_name); (· exact rfl); (· k_extra "at"); (· k_extra "ja"); (· k_extra "side"); (· exact rfl); (· exact rfl))
  trivial
theorem c_is_name {u : Uni} (bt : Bts u) (gM : Glo u "MOST_SIGNS" (isI 8)) (gL : Glo u "LETTERS" (isS lettersS)) (gS : Glo u "SIGNS" (isS signsS)) (gK : Glo u "KEPT" (isR u.K (keptL.map isS))) (Df : Defd u "is_name" "is_name" (topS 39) []) : Callable u "is_name" 1 (sp_is_name u) [] := by
  refine fn_pure (k := 0) (ps := ["thing"]) Df S_is_name.scope (fun f fd F => ⟨[], F.bindsN (fun _ _ _ _ _ _ us hl => match us, hl with | [_], _ => rfl), .nil⟩) ?_ (fun _ _ _ _ h => h)
  rintro vs H Q ⟨s, h1, h⟩
  refine ⟨_, _, rfl, h, fun X Z hM g hf => ?_⟩
  have S := S_is_name
  have nm := S.nm
  obtain ⟨l1, l8, ⟨c0, hc0, hl0⟩, hall, hk⟩ := id h1
  have zl : s.length ≤ sizeLine := by rw [sizeLine_eq]; omega
  have a0 : atI s.cps.toList 0 = some c0 := by
    have : 0 < s.cps.toList.length := get_lt hc0
    unfold atI ixN
    rw [if_pos (by decide), if_pos (by simpa using this)]
    exact hc0
  have inK : CmpR X .NotIn (isS s) (isR u.K (keptL.map isS)) (!decide (s ∈ keptL)) := cmp_ninSL g (dat_strsL lst_R) h1.ok (by decide +kernel)
  apply tr_skip
  · apply JT.to
    · k_extra "t"
    · rw [decide_eq_true hl0, decide_eq_true (by omega), decide_eq_true (by omega)]; rfl
  apply tr_retP
  apply J.to
  · apply j_and
    · apply jb_all g bt nm (ns := s.cps.toList.map fun _ => true) (P := isL ((s.cps.toList.map fun _ => true).map isB))
      · k_extra "at"
      · rw [List.map_map]
        refine j_comp (jn_map g (xs := s.cps.toList) (A := isCh) (B := isB ∘ fun _ => true) [("sign", 1)] (by k_extra "ji") (by decide +kernel) (by rw [← len_cps]; omega) (fun c => [(1, isCh c)]) (by simp) ?_ (fun _ => rfl))
        intro c hc G X' g
        have nm := nmOf g ["sign"] ["SIGNS"] (by decide +kernel)
        refine ⟨by k_extra "jgo", ?_⟩
        apply J.to
        · apply j_cmp (P1 := isS ⟨#[c]⟩) (P2 := isS signsS)
          · apply J.to
            · k_extra "j"
            · rfl
          · k_extra "j"
          · exact cmp_inC
          · exact rfl
        · rw [decide_eq_true (hall c hc)]; rfl
      · k_extra "lst"
      · exact rfl
    · intro _
      k_extra "j"
  · rw [all_true, decide_eq_false hk]; rfl
structure FigOk (s : Str) : Prop where
  ne : s.cps.toList ≠ []
  l : s.length ≤ 100
  z : 1 < s.length → s.cps.toList[0]? ≠ some 48
  all : ∀ c ∈ s.cps.toList, c ∈ figS.cps.toList
theorem S_is_figures : FnS ["text", "sign"] ["text"] ["text"] ["len", "all"] (defScope (topS 20)) := ⟨by decide +kernel⟩
def sp_is_figures (u : Uni) : Sp := fun vs H Q _ => ∃ (s : Str), (FigOk s) ∧ Pf [isS s] (isB true) vs H Q
theorem jc_is_figures {u : Uni} {N V G : List Str} {sc : Scope} {k l j : Nat} {X : Cx} {Z : Zn} {Γ : List Ty} {e0 : Expr} {pos p : Pos} {s : Str} (g : Good u N sc k X) (nm : Nm sc V G) (F : Callable u "is_figures" l (sp_is_figures u) []) (hl : Nat.ble l k = true) (hG : At G j "is_figures") (ha : JA X Z Γ [e0] [isS s]) (h1 : FigOk s) (hs : starEach [e0] X.env = (false, eval e0 X.env) :: starEach [] X.env) (hp : (backTo pos (starEach [] X.env)).any (·.1) = false) : J X Z Γ (.Call (.Name "is_figures" p) [e0] [] pos) (isB true) :=
  j_call g F (Nat.le_of_ble_eq_true hl) (fun _ _ _ h => ⟨s, h1, h⟩) ha (nm.gl hG) hs hp
example : True := by
  k_with "call" => ((with_reducible apply jc_is_figures g nm c_is_figures); (· exact rfl); (· k_extra "at"); (· k_extra "ja"); (· k_extra "side"); (· exact rfl); (· exact rfl))
  trivial
theorem c_is_figures {u : Uni} (bt : Bts u) (gF : Glo u "FIGURES" (isS figS)) (Df : Defd u "is_figures" "is_figures" (topS 20) []) : Callable u "is_figures" 1 (sp_is_figures u) [] := by
  refine fn_pure (k := 0) (ps := ["text"]) Df S_is_figures.scope (fun f fd F => ⟨[], F.bindsN (fun _ _ _ _ _ _ us hl => match us, hl with | [_], _ => rfl), .nil⟩) ?_ (fun _ _ _ _ h => h)
  rintro vs H Q ⟨s, h1, h⟩
  refine ⟨_, _, rfl, h, fun X Z hM g hf => ?_⟩
  have S := S_is_figures
  have nm := S.nm
  obtain ⟨ne, hl, hz, hall⟩ := id h1
  have zl : s.length ≤ sizeLine := by rw [sizeLine_eq]; omega
  obtain ⟨c0, r, hc⟩ := List.exists_cons_of_ne_nil ne
  have a0 : atI s.cps.toList 0 = some c0 := by
    unfold atI ixN
    rw [if_pos (by decide), if_pos (by rw [hc]; simp), hc]
    rfl
  have e0 : s ≠ "" := fun z => by rw [z] at ne; exact ne rfl
  apply tr_skip
  · apply JT.to (b := false || (decide ((1 : Int) < (s.length : Int)) && decide ((⟨#[c0]⟩ : Str) = "0")))
    · apply jt_bool
      apply jw_or
      · apply JT.to
        · k_extra "t"
        · exact decide_eq_false e0
      · intro _
        apply jw_or1
        apply jt_bool
        apply jw_and
        · k_extra "t"
        · intro _
          apply jw_and1
          k_extra "t"
    · rw [Bool.false_or, Bool.and_eq_false_iff]
      by_cases q : 1 < s.length
      · right
        refine decide_eq_false fun z => hz q ?_
        rw [hc]
        have : c0 = 48 := by
          have := congrArg (fun t : Str => t.cps.toList) z
          have e : ("0" : Str).cps.toList = [48] := by decide +kernel
          rw [e] at this
          simpa using this
        rw [this]; rfl
      · left
        exact decide_eq_false (by omega)
  apply tr_retP
  apply J.to
  · apply jb_all g bt nm (ns := s.cps.toList.map fun _ => true) (P := isL ((s.cps.toList.map fun _ => true).map isB))
    · k_extra "at"
    · rw [List.map_map]
      refine j_comp (jn_map g (xs := s.cps.toList) (A := isCh) (B := isB ∘ fun _ => true) [("sign", 1)] (by k_extra "ji") (by decide +kernel) (by rw [← len_cps]; omega) (fun c => [(1, isCh c)]) (by simp) ?_ (fun _ => rfl))
      intro c hc G X' g
      have nm := nmOf g ["sign"] ["FIGURES"] (by decide +kernel)
      refine ⟨by k_extra "jgo", ?_⟩
      apply J.to
      · apply j_cmp (P1 := isS ⟨#[c]⟩) (P2 := isS figS)
        · apply J.to
          · k_extra "j"
          · rfl
        · k_extra "j"
        · exact cmp_inC
        · exact rfl
      · rw [decide_eq_true (hall c hc)]; rfl
    · k_extra "lst"
    · exact rfl
  · rw [all_true]

end Wd

end

section
set_option maxRecDepth 100000
set_option maxHeartbeats 4000000
namespace Wd
open PySem PySem.Spec L2
mutual
def Bx.ok : Bx → Prop
  | .box n s h => NmOk n ∧ SzOk s ∧ 0 ≤ h ∧ h ≤ 1000
  | .row n s sp sd _ ks => NmOk n ∧ SzOk s ∧ 0 ≤ sp ∧ sp ≤ 1000 ∧ sd ∈ leansL ∧ ks.length ≤ 12 ∧ Bx.oks ks
  | .col n s sp sd ks => NmOk n ∧ SzOk s ∧ 0 ≤ sp ∧ sp ≤ 1000 ∧ sd ∈ leansL ∧ ks.length ≤ 12 ∧ Bx.oks ks
def Bx.oks : List Bx → Prop
  | [] => True
  | b :: bs => b.ok ∧ Bx.oks bs
end
theorem Bx.oks_all : ∀ {bs : List Bx}, Bx.oks bs → ∀ b ∈ bs, b.ok
  | a :: bs, h, b, hb => by
    rw [Bx.oks] at h
    rcases List.mem_cons.mp hb with rfl | hb
    · exact h.1
    · exact Bx.oks_all h.2 b hb
theorem shp_pair {n : Int} {s : Str} (h : PyData.strOk s = true) : Shp 1 (.tuple [.str s, .int n]) := shp_tuple fun d hd => by
  rcases List.mem_cons.mp hd with rfl | hd
  · exact shp_str h
  · rcases List.mem_cons.mp hd with rfl | hd
    · exact shp_int
    · cases hd
example : True := by
  k_with "bside" => first | decide +kernel | assumption | rfl | exact decide_eq_false (by omega) | exact decide_eq_true (by omega)
  k_with "need" => first | (apply tr_exprA; (· apply jc_need g nm c_need rfl; (· k_extra "at"); (· apply ja_cons; (· apply J.to; (· k_extra "j"); (· refine congrArg isB ?_; k_extra "bside")); (· k_extra "ja"); (· exact rfl)); (· exact rfl); (· exact rfl)); (· exact rfl)) | fail
  trivial
theorem S_made_of : FnS ["tree", "depth", "kids", "kid"] ["tree", "depth"] ["tree", "depth", "kids"] ["need", "isinstance", "tuple", "len", "str", "MOST_WITHIN", "is_name", "are_sizes", "is_size", "Plain", "LEANS_boxes", "MOST_KIDS", "Column", "bool", "Row"] (defScope (topS 49)) := ⟨by decide +kernel⟩
def sp_made (u : Uni) (c : Cl) (n : Nat) : Sp := fun vs H Q _ => ∃ (b : Bx) (d : Nat), b.ok ∧ b.dep ≤ n ∧ d + b.dep ≤ 6 ∧ Pf [isTr u.K b, isI (d : Int)] (isBx c u.K b) vs H Q
theorem c_made_of {u : Uni} {c : Cl} (bt : Bts u) (bk : BxMk u c) (c_need : Callable u "need" 1 (sp_need u) []) (c_is_name : Callable u "is_name" 1 (sp_is_name u) []) (c_are_sizes : Callable u "are_sizes" 3 (sp_are_sizes u) []) (c_is_size : Callable u "is_size" 2 (sp_is_size u) [])
    (gD : Glo u "MOST_WITHIN" (isI 6)) (gL : Glo u "LEANS_boxes" (isR u.K (leansL.map isS))) (gK : Glo u "MOST_KIDS" (isI 12)) (Df : Defd u "made_of" "made_of" (topS 49) []) : ∀ n, Callable u "made_of" (n + 5) (sp_made u c n) [] := by
  have hb : ∀ f fd, FunD u.K "made_of" "made_of" (defArgs (topS 49)) (defBody (topS 49)) (defScope (topS 49)) [] [] f fd → ∃ ds, Binds u.K fd ["tree", "depth"] ds ∧ Vals [] ds := fun f fd F => ⟨[], F.bindsN (fun _ _ _ _ _ _ us hl => match us, hl with | [_, _], _ => rfl), .nil⟩
  intro n
  induction n with
  | zero => exact fn_pure (k := 4) (ps := ["tree", "depth"]) Df S_made_of.scope hb (fun vs H Q ⟨b, d, _, h, _⟩ => absurd h (by have := b.dep_pos; omega)) (fun _ _ _ _ h => h)
  | succ n ih =>
    refine fn_pure (k := n + 5) (ps := ["tree", "depth"]) Df S_made_of.scope hb ?_ (fun _ _ _ _ h => h)
    rintro vs H Q ⟨b, d, hok, hdn, hd6, h⟩
    have S := S_made_of
    have nm := S.nm
    have l0 : 3 ≤ n + 5 := by omega
    have l1 : 4 ≤ n + 5 := by omega
    cases b with
    | box nb s hi =>
      rw [Bx.ok] at hok
      obtain ⟨k1, k2, k3, k4⟩ := hok
      rw [Bx.dep] at hd6
      rw [isTr] at h
      refine ⟨_, _, rfl, h, fun X Z hM g hf => ?_⟩
      k_extra "need"
      k_extra "need"
      k_extra "ifT"
      k_extra "need"
      apply tr_retB
      apply jk_plain g nm bk l0
      · k_extra "at"
      · k_extra "ja"
      · exact rfl
      · exact rfl
    | row nb s sp sd go ks =>
      have hkd := Bx.dep_kids hdn
      rw [Bx.ok] at hok
      obtain ⟨k1, k2, k3, k4, k5, k6, k7⟩ := hok
      rw [isTr, isTrs_map] at h
      refine ⟨_, _, rfl, h, fun X Z hM g hf => ?_⟩
      have ina : CmpR X .In (isTt [isS "row", isI 7]) (isTt [isTt [isS "row", isI 7], isTt [isS "column", isI 6]]) true := cmp_inT g (dat_T tup_Tt (.cons dat_S (.cons dat_I .nil))) (dat_T tup_Tt (.cons (dat_T tup_Tt (.cons dat_S (.cons dat_I .nil))) (.cons (dat_T tup_Tt (.cons dat_S (.cons dat_I .nil))) .nil))) (by decide +kernel) (by decide +kernel) (by decide +kernel)
      have inb : CmpR X .In (isS sd) (isR u.K (leansL.map isS)) (decide (sd ∈ leansL)) := cmp_inSL g (dat_strsL lst_R) ((show ∀ t ∈ leansL, PyData.strOk t = true by decide +kernel) sd k5) (by decide +kernel)
      have lm : (ks.map (isTr u.K)).length = ks.length := List.length_map ..
      have am : atI [isS "row", isS nb, isSz u.K s, isI sp, isS sd, isB go, isT u.K (ks.map (isTr u.K))] (-1) = some (isT u.K (ks.map (isTr u.K))) := rfl
      have q6 : (ks.length : Int) ≤ 12 := by omega
      rw [Bx.dep] at hd6
      have q7 : (d : Int) < 6 := by omega
      k_extra "need"
      k_extra "need"
      k_extra "skip"
      apply tr_exprA
      · apply jc_need g nm c_need rfl
        · k_extra "at"
        · apply ja_cons
          · apply J.to
            · apply j_cmp
              · k_extra "j"
              · k_extra "j"
              · exact ina
              · exact rfl
            · rfl
          · k_extra "ja"
          · exact rfl
        · exact rfl
        · exact rfl
      · exact rfl
      k_extra "need"
      k_extra "need"
      refine tr_setC g (i := 2) (C := ownL (ks.map (isBx c u.K))) ?_ (At.get (by k_extra "at")) (by decide +kernel) (by decide +kernel) rfl rfl (by decide +kernel) ?_
      · refine jl_map g (xs := ks) (A := isTr u.K) (B := isBx c u.K) [("kid", 3)] (ji_tup g (P := isT u.K (ks.map (isTr u.K))) (by k_extra "j") tup_T) (by decide +kernel) (by omega) (fun b => [(3, isTr u.K b)]) (by simp) ?_ (fun _ => rfl)
        intro b hbk G X' g
        have nm := nmOf g ["kid", "depth"] ["made_of"] (by decide +kernel)
        refine ⟨by k_extra "jgo", ?_⟩
        have db := Bx.deps_le (Nat.le_refl _) b hbk
        refine j_call g ih (Nat.le_refl _) (ret := isBx c u.K b) (Ps := [isTr u.K b, isI ((d + 1 : Nat) : Int)]) (fun vs H Q h => ⟨b, d + 1, Bx.oks_all k7 b hbk, hkd b hbk, by omega, h⟩) ?_ (nm.gl (by k_extra "at")) rfl rfl
        apply ja_cons
        · k_extra "j"
        · apply ja_cons
          · apply J.to
            · k_extra "j"
            · rfl
          · k_extra "ja"
          · exact rfl
        · exact rfl
      refine tr_frz 2 rfl own_L ?_
      k_extra "skip"
      k_extra "need"
      apply tr_retP
      apply jk_row g nm bk l1
      · k_extra "at"
      · k_extra "ja"
      · exact rfl
      · exact rfl
    | col nb s sp sd ks =>
      have hkd := Bx.dep_kids hdn
      rw [Bx.ok] at hok
      obtain ⟨k1, k2, k3, k4, k5, k6, k7⟩ := hok
      rw [isTr, isTrs_map] at h
      refine ⟨_, _, rfl, h, fun X Z hM g hf => ?_⟩
      have ina : CmpR X .In (isTt [isS "column", isI 6]) (isTt [isTt [isS "row", isI 7], isTt [isS "column", isI 6]]) true := cmp_inT g (dat_T tup_Tt (.cons dat_S (.cons dat_I .nil))) (dat_T tup_Tt (.cons (dat_T tup_Tt (.cons dat_S (.cons dat_I .nil))) (.cons (dat_T tup_Tt (.cons dat_S (.cons dat_I .nil))) .nil))) (by decide +kernel) (by decide +kernel) (by decide +kernel)
      have inb : CmpR X .In (isS sd) (isR u.K (leansL.map isS)) (decide (sd ∈ leansL)) := cmp_inSL g (dat_strsL lst_R) ((show ∀ t ∈ leansL, PyData.strOk t = true by decide +kernel) sd k5) (by decide +kernel)
      have lm : (ks.map (isTr u.K)).length = ks.length := List.length_map ..
      have am : atI [isS "column", isS nb, isSz u.K s, isI sp, isS sd, isT u.K (ks.map (isTr u.K))] (-1) = some (isT u.K (ks.map (isTr u.K))) := rfl
      have q6 : (ks.length : Int) ≤ 12 := by omega
      rw [Bx.dep] at hd6
      have q7 : (d : Int) < 6 := by omega
      k_extra "need"
      k_extra "need"
      k_extra "skip"
      apply tr_exprA
      · apply jc_need g nm c_need rfl
        · k_extra "at"
        · apply ja_cons
          · apply J.to
            · apply j_cmp
              · k_extra "j"
              · k_extra "j"
              · exact ina
              · exact rfl
            · rfl
          · k_extra "ja"
          · exact rfl
        · exact rfl
        · exact rfl
      · exact rfl
      k_extra "need"
      k_extra "need"
      refine tr_setC g (i := 2) (C := ownL (ks.map (isBx c u.K))) ?_ (At.get (by k_extra "at")) (by decide +kernel) (by decide +kernel) rfl rfl (by decide +kernel) ?_
      · refine jl_map g (xs := ks) (A := isTr u.K) (B := isBx c u.K) [("kid", 3)] (ji_tup g (P := isT u.K (ks.map (isTr u.K))) (by k_extra "j") tup_T) (by decide +kernel) (by omega) (fun b => [(3, isTr u.K b)]) (by simp) ?_ (fun _ => rfl)
        intro b hbk G X' g
        have nm := nmOf g ["kid", "depth"] ["made_of"] (by decide +kernel)
        refine ⟨by k_extra "jgo", ?_⟩
        have db := Bx.deps_le (Nat.le_refl _) b hbk
        refine j_call g ih (Nat.le_refl _) (ret := isBx c u.K b) (Ps := [isTr u.K b, isI ((d + 1 : Nat) : Int)]) (fun vs H Q h => ⟨b, d + 1, Bx.oks_all k7 b hbk, hkd b hbk, by omega, h⟩) ?_ (nm.gl (by k_extra "at")) rfl rfl
        apply ja_cons
        · k_extra "j"
        · apply ja_cons
          · apply J.to
            · k_extra "j"
            · rfl
          · k_extra "ja"
          · exact rfl
        · exact rfl
      refine tr_frz 2 rfl own_L ?_
      k_extra "ifT"
      apply tr_retB
      apply jk_col g nm bk l0
      · k_extra "at"
      · k_extra "ja"
      · exact rfl
      · exact rfl

end Wd

end

section
set_option maxRecDepth 100000
set_option maxHeartbeats 4000000
namespace Wd
open PySem PySem.Spec L2
example : True := by
  k_with "call" => ((with_reducible apply jb_lenSet g bt nm); (· k_extra "at"); (· k_extra "at"); (· k_extra "j"); (· k_extra "lst"); (· k_extra "side"); (· k_extra "side"); (· exact rfl))
  trivial
theorem S_box_of : FnS ["tree", "box", "names"] ["tree"] ["tree", "box", "names"] ["made_of", "need", "len", "MOST_BOXES", "set"] (defScope (topS 50)) := ⟨by decide +kernel⟩
def sp_box_of (u : Uni) (c : Cl) : Sp := fun vs H Q _ => ∃ b : Bx, b.ok ∧ b.dep ≤ 6 ∧ b.names.Nodup ∧ b.names.length ≤ 40 ∧ Pf [isTr u.K b] (isBx c u.K b) vs H Q
theorem c_box_of {u : Uni} {c : Cl} (bt : Bts u) (c_made_of : Callable u "made_of" 11 (sp_made u c 6) []) (mnames : ∀ C ∈ [c.P, c.R, c.C], MC u C "names" 7 (spNames c u.K 6)) (c_need : Callable u "need" 1 (sp_need u) []) (gM : Glo u "MOST_BOXES" (isI 40))
    (Df : Defd u "box_of" "box_of" (topS 50) []) : Callable u "box_of" 12 (sp_box_of u c) [] := by
  refine fn_pure (k := 11) (ps := ["tree"]) Df S_box_of.scope (fun f fd F => ⟨[], F.bindsN (fun _ _ _ _ _ _ us hl => match us, hl with | [_], _ => rfl), .nil⟩) ?_ (fun _ _ _ _ h => h)
  rintro vs H Q ⟨b, h1, h2, h3, h4, h⟩
  refine ⟨_, _, rfl, h, fun X Z hM g hf => ?_⟩
  have S := S_box_of
  have nm := S.nm
  apply tr_let g hf S (P := isBx c u.K b)
  · k_extra "at"
  · k_extra "at"
  · refine j_call g c_made_of (Nat.le_refl _) (ret := isBx c u.K b) (Ps := [isTr u.K b, isI ((0 : Nat) : Int)]) (fun vs H Q h => ⟨b, 0, h1, h2, by omega, h⟩) ?_ (nm.gl (by k_extra "at")) rfl rfl
    apply ja_cons
    · k_extra "j"
    · apply ja_cons
      · exact J.to j_int rfl
      · k_extra "ja"
      · exact rfl
    · exact rfl
  · exact rfl
  · exact rfl
  apply tr_let g hf S (P := isL (b.names.map isS))
  · k_extra "at"
  · k_extra "at"
  · apply jm_any (c := c) (b := b) g mnames (by simp [MN]) (by decide) (fun vs H Q h => ⟨b, h2, by omega, h⟩)
    · k_extra "j"
    · exact rfl
  · exact rfl
  · exact rfl
  have lm : (b.names.map isS).length = b.names.length := List.length_map ..
  have few : b.names.length < 1000 := by omega
  have le : (b.names.length : Int) ≤ 40 := by omega
  apply tr_exprA
  · apply jc_need g nm c_need rfl
    · k_extra "at"
    · apply ja_cons
      · apply J.to
        · k_extra "j"
        · rw [decide_eq_true le]; simp
      · k_extra "ja"
      · exact rfl
    · exact rfl
    · exact rfl
  · exact rfl
  k_extra "ret"
  rfl

end Wd

end

section
set_option maxRecDepth 100000
set_option maxHeartbeats 4000000
namespace Wd
open PySem PySem.Spec L2
structure BxK (u : Uni) (c : Cl) : Prop where
  cf : BxC u c
  mR : u.mg "Row" = some (.ref c.R)
  mC : u.mg "Column" = some (.ref c.C)
  pR : PySem.W.kitOne u.K (.ref c.P) (.ref c.R) = some false
  rR : PySem.W.kitOne u.K (.ref c.R) (.ref c.R) = some true
  cR : PySem.W.kitOne u.K (.ref c.C) (.ref c.R) = some false
  pA : PySem.W.kitAny u.K (.ref c.P) [.ref c.R, .ref c.C] = some false
  rA : PySem.W.kitAny u.K (.ref c.R) [.ref c.R, .ref c.C] = some true
  cA : PySem.W.kitAny u.K (.ref c.C) [.ref c.R, .ref c.C] = some true
def Bx.isR : Bx → Bool
  | .row _ _ _ _ _ _ => true
  | _ => false
section
variable {u : Uni} {N V G fn : List Str} {sc : Scope} {k : Nat} {X : Cx} {Z : Zn} {Γ : List Ty} {a e : Expr} {P : Pr} {pos p apos py py1 py2 pt : Pos} {c : Cl} {b : Bx} {j j1 j2 n : Nat}
theorem j_isRow (g : Good u N sc k X) (bt : Bts u) (nm : Nm sc V G) (M : BxK u c) (hG : At G j "isinstance") (hG2 : At G j2 "Row") (ha : J X Z Γ a (isBx c u.K b)) (hs : starEach [a, .Name "Row" py] X.env = (false, eval a X.env) :: starEach [.Name "Row" py] X.env) :
    J X Z Γ (.Call (.Name "isinstance" p) [a, .Name "Row" py] [] pos) (isB b.isR) := by
  cases b with
  | box => rw [isBx] at ha; exact jb_isiC g bt nm M.mR hG hG2 ha (ty_ins M.cf.P) M.pR hs
  | row => rw [isBx] at ha; exact jb_isiC g bt nm M.mR hG hG2 ha (ty_ins M.cf.R) M.rR hs
  | col => rw [isBx] at ha; exact jb_isiC g bt nm M.mR hG hG2 ha (ty_ins M.cf.C) M.cR hs
theorem j_isArd (g : Good u N sc k X) (bt : Bts u) (nm : Nm sc V G) (M : BxK u c) (hG : At G j "isinstance") (hG1 : At G j1 "Row") (hG2 : At G j2 "Column") (ha : J X Z Γ a (isBx c u.K b))
    (hs : starEach [a, .Tuple [.Name "Row" py1, .Name "Column" py2] n pt] X.env = (false, eval a X.env) :: starEach [.Tuple [.Name "Row" py1, .Name "Column" py2] n pt] X.env) :
    J X Z Γ (.Call (.Name "isinstance" p) [a, .Tuple [.Name "Row" py1, .Name "Column" py2] n pt] [] pos) (isB (!b.isB)) := by
  cases b with
  | box => rw [isBx] at ha; exact jb_isiT g bt nm M.mR M.mC hG hG1 hG2 ha (ty_ins M.cf.P) M.pA hs
  | row => rw [isBx] at ha; exact jb_isiT g bt nm M.mR M.mC hG hG1 hG2 ha (ty_ins M.cf.R) M.rA hs
  | col => rw [isBx] at ha; exact jb_isiT g bt nm M.mR M.mC hG hG1 hG2 ha (ty_ins M.cf.C) M.cA hs
end
example : True := by
  k_with "call" => ((with_reducible apply j_isRow g bt nm bq); (· k_extra "at"); (· k_extra "at"); (· k_extra "j"); (· exact rfl))
  k_with "call" => ((with_reducible apply j_isArd g bt nm bq); (· k_extra "at"); (· k_extra "at"); (· k_extra "at"); (· k_extra "j"); (· exact rfl))
  k_with "jn" => ((with_reducible apply jn_listRg g bt nm); (· k_extra "at"); (· k_extra "at"); (· k_extra "j"); (· k_extra "side"); (· exact rfl); (· exact rfl))
  trivial
theorem S_need_width : FnS ["width"] ["width"] ["width"] ["is_part", "NoPart"] (defScope (topS 73)) := ⟨by decide +kernel⟩
def sp_need_width (u : Uni) : Sp := fun vs H Q _ => ∃ (q : Rat), (Md q) ∧ (0 ≤ q) ∧ Pf [isPt u.K q] (isN) vs H Q
theorem jc_need_width {u : Uni} {N V G : List Str} {sc : Scope} {k l j : Nat} {X : Cx} {Z : Zn} {Γ : List Ty} {e0 : Expr} {pos p : Pos} {q : Rat} (g : Good u N sc k X) (nm : Nm sc V G) (F : Callable u "need_width" l (sp_need_width u) []) (hl : Nat.ble l k = true) (hG : At G j "need_width") (ha : JA X Z Γ [e0] [isPt u.K q]) (h1 : Md q) (h2 : 0 ≤ q) (hs : starEach [e0] X.env = (false, eval e0 X.env) :: starEach [] X.env) (hp : (backTo pos (starEach [] X.env)).any (·.1) = false) : J X Z Γ (.Call (.Name "need_width" p) [e0] [] pos) (isN) :=
  j_call g F (Nat.le_of_ble_eq_true hl) (fun _ _ _ h => ⟨q, h1, h2, h⟩) ha (nm.gl hG) hs hp
example : True := by
  k_with "call" => ((with_reducible apply jc_need_width g nm c_need_width); (· exact rfl); (· k_extra "at"); (· k_extra "ja"); (· k_extra "side"); (· k_extra "side"); (· exact rfl); (· exact rfl))
  trivial
theorem c_need_width {u : Uni} (c_is_part : Callable u "is_part" 2 (sp_is_part u) []) (Df : Defd u "need_width" "need_width" (topS 73) []) : Callable u "need_width" 3 (sp_need_width u) [] := by
  refine fn_pure (k := 2) (ps := ["width"]) Df S_need_width.scope (fun f fd F => ⟨[], F.bindsN (fun _ _ _ _ _ _ us hl => match us, hl with | [_], _ => rfl), .nil⟩) ?_ (fun _ _ _ _ h => h)
  rintro vs H Q ⟨q, h1, h2, h⟩
  refine ⟨_, _, rfl, h, fun X Z hM g hf => ?_⟩
  have S := S_need_width
  have nm := S.nm
  have h3 : 0 ≤ q.num := num_nn.mpr h2
  k_extra "skip"
  exact tr_off
theorem Bx.ok_kids {b : Bx} (h : b.ok) : b.kids.length ≤ 12 ∧ ∀ k ∈ b.kids, k.ok := by
  cases b with
  | box n s h => exact ⟨by show 0 ≤ 12; decide, fun k hk => by cases hk⟩
  | row n s sp sd go ks => rw [Bx.ok] at h; exact ⟨h.2.2.2.2.2.1, Bx.oks_all h.2.2.2.2.2.2⟩
  | col n s sp sd ks => rw [Bx.ok] at h; exact ⟨h.2.2.2.2.2.1, Bx.oks_all h.2.2.2.2.2.2⟩
theorem Bx.ok_size {b : Bx} (h : b.ok) : NmOk b.name ∧ SzOk b.size := by
  cases b <;> rw [Bx.ok] at h <;> exact ⟨h.1, h.2.1⟩
theorem Bx.ok_space {b : Bx} (h : b.ok) : 0 ≤ b.space ∧ b.space ≤ 1000 := by
  cases b with
  | box n s h => exact ⟨by show (0 : Int) ≤ 0; decide, by show (0 : Int) ≤ 1000; decide⟩
  | row n s sp sd go ks => rw [Bx.ok] at h; exact ⟨h.2.2.1, h.2.2.2.1⟩
  | col n s sp sd ks => rw [Bx.ok] at h; exact ⟨h.2.2.1, h.2.2.2.1⟩
theorem Bx.ok_side {b : Bx} (h : b.ok) (hb : b.isB = false) : b.side ∈ leansL := by
  cases b with
  | box n s h => cases hb
  | row n s sp sd go ks => rw [Bx.ok] at h; exact h.2.2.2.2.1
  | col n s sp sd ks => rw [Bx.ok] at h; exact h.2.2.2.2.1
theorem Bx.goes_row {b : Bx} (h : b.goes = true) : b.isR = true := by cases b <;> first | rfl | cases h
theorem flatten_single (n : Nat) : ((List.range n).map fun i => [i]).flatten = List.range n := by
  induction List.range n with
  | nil => rfl
  | cons a l ih => rw [List.map_cons, List.flatten_cons, ih]; rfl
theorem S_lines_in : FnS ["box", "width", "many", "kid", "number"] ["box", "width"] ["box", "width", "many"] ["len", "isinstance", "Row", "broken", "list", "range"] (defScope (topS 74)) := ⟨by decide +kernel⟩
def sp_lines_in (u : Uni) (c : Cl) : Sp := fun vs H Q _ => ∃ (b : Bx) (w : Rat), b.ok ∧ b.isB = false ∧ Md w ∧ Pf [isBx c u.K b, isPt u.K w] (Pr.ex fun ls : List (List Nat) => Pr.and (LinesOk b.kids.length ls ∧ (b.isR = false → ∀ l ∈ ls, l.length = 1)) (isL (ls.map isLine))) vs H Q
theorem c_lines_in {u : Uni} {c : Cl} (bt : Bts u) (bm : BxM u c) (bq : BxK u c) (c_broken : Callable u "broken" 4 (sp_broken u) []) (Df : Defd u "lines_in" "lines_in" (topS 74) []) : Callable u "lines_in" 5 (sp_lines_in u c) [] := by
  refine fn_pure (k := 4) (ps := ["box", "width"]) Df S_lines_in.scope (fun f fd F => ⟨[], F.bindsN (fun _ _ _ _ _ _ us hl => match us, hl with | [_, _], _ => rfl), .nil⟩) ?_ (fun _ _ _ _ h => h)
  rintro vs H Q ⟨b, w, h1, h2, h3, h⟩
  refine ⟨_, _, rfl, h, fun X Z hM g hf => ?_⟩
  have S := S_lines_in
  have nm := S.nm
  obtain ⟨k1, k2⟩ := Bx.ok_kids h1
  have lm : (b.kids.map (isBx c u.K)).length = b.kids.length := List.length_map ..
  k_extra "let"
  cases hr : b.isR with
  | false =>
    have hg : b.goes = false := by cases hg : b.goes with | false => rfl | true => rw [Bx.goes_row hg] at hr; cases hr
    apply tr_skip
    · exact jt_bool (jw_andF (jt_call (J.to (by k_extra "j") (by rw [hr]))))
    apply tr_skip
    · exact jt_bool (jw_andF (jt_call (J.to (by k_extra "j") (by rw [hr]))))
    apply tr_retP
    refine J.imp (P := isL (((List.range b.kids.length).map fun i => [i]).map isLine)) ?_ fun S v h => ⟨_, ⟨⟨flatten_single _, fun l hl => ?_⟩, fun _ l hl => ?_⟩, h⟩
    · rw [List.map_map]
      have hn : b.kids.length ≤ 1000000 := by omega
      refine j_comp (jn_map g (xs := List.range b.kids.length) (A := isNt) (B := isLine ∘ fun i => [i]) [("number", 4)] ?_ (by decide +kernel) (by simp; omega) (fun i => [(4, isNt i)]) (by simp) ?_ (fun _ => rfl))
      · have e : (List.range b.kids.length).map isNt = rangeP 0 b.kids.length := by
          unfold rangeP
          exact List.map_congr_left fun i _ => by rw [Int.zero_add]
        rw [e]
        k_extra "ji"
      · intro i hi G X' g
        have nm := nmOf g ["number"] [] (by decide +kernel)
        refine ⟨by k_extra "jgo", ?_⟩
        apply J.to
        · k_extra "j"
        · rfl
    · obtain ⟨i, _, rfl⟩ := List.mem_map.mp hl
      exact fun z => by cases z
    · obtain ⟨i, _, rfl⟩ := List.mem_map.mp hl
      rfl
  | true =>
    have sp := Bx.ok_space h1
    cases hg : b.goes with
    | true =>
      apply tr_ifT
      · apply JT.to
        · k_extra "t"
        · rw [hr, hg]; rfl
      apply tr_retB
      have hw : ∀ n ∈ b.kids.map (fun k => k.size.wish), 0 ≤ n ∧ n ≤ 1000 := fun n hn => by
        obtain ⟨kd, hk, rfl⟩ := List.mem_map.mp hn
        have := (Bx.ok_size (k2 kd hk)).2
        exact ⟨Int.le_trans this.l0 this.lw, this.w1⟩
      have hl : (b.kids.map (fun k => k.size.wish)).length ≤ 900 := by rw [List.length_map]; omega
      apply J.imp
      · apply jc_broken g nm c_broken rfl (ws := b.kids.map (fun k => k.size.wish)) (gap := b.space) (w := w)
        · k_extra "at"
        · apply ja_cons
          · rw [List.map_map]
            refine j_comp (jn_map g (xs := b.kids) (A := isBx c u.K) (B := isI ∘ fun k => k.size.wish) [("kid", 3)] (by k_extra "ji") (by decide +kernel) (by omega) (fun b => [(3, isBx c u.K b)]) (by simp) ?_ (fun _ => rfl))
            intro kd hk G X' g
            have nm := nmOf g ["kid"] [] (by decide +kernel)
            refine ⟨by k_extra "jgo", ?_⟩
            apply J.to
            · k_extra "j"
            · rfl
          · k_extra "ja"
          · exact rfl
        · exact hw
        · exact sp.1
        · exact sp.2
        · exact hl
        · exact h3
        · exact rfl
        · exact rfl
      · intro S v ⟨ls, hls, hv⟩
        rw [List.length_map] at hls
        exact ⟨ls, ⟨hls, fun z => nomatch z⟩, hv⟩
    | false =>
      apply tr_skip
      · apply JT.to
        · k_extra "t"
        · rw [hr, hg]; rfl
      have hn : b.kids.length ≤ 1000000 := by omega
      apply tr_if (d := b.isR && decide ((0 : Int) < (b.kids.length : Int)))
      · k_extra "t"
      · intro e
        have e : 0 < b.kids.length := by rw [hr, Bool.true_and] at e; have := of_decide_eq_true e; omega
        apply tr_retB
        refine J.imp (P := isL ([List.range b.kids.length].map isLine)) ?_ fun S v h => ⟨_, ⟨⟨by simp, fun l hl => ?_⟩, fun z => nomatch z⟩, h⟩
        · apply J.to
          · apply j_lst (Ps := [isLine (List.range b.kids.length)])
            · apply ja_cons
              · exact J.new (by k_extra "jn") own_L
              · k_extra "ja"
              · exact rfl
            · exact Nat.le_of_ble_eq_true rfl
          · rfl
        · rw [List.mem_singleton.mp hl]
          exact fun z => by rw [List.range_eq_nil] at z; omega
      · intro e
        refine tr_end ?_
        apply tr_retP
        refine J.imp (P := isL (((List.range b.kids.length).map fun i => [i]).map isLine)) ?_ fun S v h => ⟨_, ⟨⟨flatten_single _, fun l hl => ?_⟩, fun _ l hl => ?_⟩, h⟩
        · rw [List.map_map]
          have hn : b.kids.length ≤ 1000000 := by omega
          refine j_comp (jn_map g (xs := List.range b.kids.length) (A := isNt) (B := isLine ∘ fun i => [i]) [("number", 4)] ?_ (by decide +kernel) (by simp; omega) (fun i => [(4, isNt i)]) (by simp) ?_ (fun _ => rfl))
          · have e : (List.range b.kids.length).map isNt = rangeP 0 b.kids.length := by
              unfold rangeP
              exact List.map_congr_left fun i _ => by rw [Int.zero_add]
            rw [e]
            k_extra "ji"
          · intro i hi G X' g
            have nm := nmOf g ["number"] [] (by decide +kernel)
            refine ⟨by k_extra "jgo", ?_⟩
            apply J.to
            · k_extra "j"
            · rfl
        · obtain ⟨i, _, rfl⟩ := List.mem_map.mp hl
          exact fun z => by cases z
        · obtain ⟨i, _, rfl⟩ := List.mem_map.mp hl
          rfl

end Wd

end

section
set_option maxRecDepth 100000
set_option maxHeartbeats 4000000
namespace Wd
open PySem PySem.Spec L2
def nx (M : Nat) : Nat := 300 * M + 4000000000
/-- the widths of a line, and what is left of it -/
structure LnOk (D M n : Nat) (ws : List Rat) (sp : Rat) : Prop where
  w : ∃ w : Nat, 1 ≤ w ∧ w ≤ 240 ∧ (∀ x ∈ ws, Bd (D * w) (nx M) x) ∧ Bd (D * w) (nx M) sp
  n : ws.length = n
  nn : ∀ x ∈ ws, 0 ≤ x
  sp : 0 ≤ sp
theorem S_line_widths : FnS ["box", "line", "width", "items", "share", "widths", "spare", "over", "least", "most", "wide", "number"] ["box", "line", "width"] ["box", "line", "width", "items", "share", "widths", "spare", "over", "least", "most", "wide"] ["isinstance", "Row", "shared", "less", "part_of", "len", "lesser", "greater", "NOUGHT_laying"] (defScope (topS 75)) := ⟨by decide +kernel⟩
def sp_line_widths (u : Uni) (c : Cl) : Sp := fun vs H Q _ => ∃ (b : Bx) (l : List Nat) (w : Rat) (D M : Nat), b.ok ∧ b.isB = false ∧ (∀ n ∈ l, n < b.kids.length) ∧ l.length ≤ 12 ∧ l ≠ [] ∧ (b.isR = false → l.length = 1) ∧ Bd D M w ∧ LL ∣ D ∧ D < 2 ^ 300 ∧ M < 2 ^ 270 ∧
  Pf [isBx c u.K b, isLine l, isPt u.K w] (Pr.ex fun q : List Rat × Rat => Pr.and (LnOk D M l.length q.1 q.2) (isTt [isL (q.1.map (isPt u.K)), isPt u.K q.2])) vs H Q
theorem c_line_widths {u : Uni} {c : Cl} (bt : Bts u) (bm : BxM u c) (bq : BxK u c) (c_shared : Callable u "shared" 7 (sp_shared u) []) (c_less : Callable u "less" 3 (sp_less u) []) (c_lesser : Callable u "lesser" 2 (sp_lesser u) []) (c_greater : Callable u "greater" 2 (sp_greater u) [])
    (c_part_of1 : Callable u "part_of" 2 (sp_part_of u) [.int 1]) (gN : Glo u "NOUGHT_laying" (isPt u.K 0)) (Df : Defd u "line_widths" "line_widths" (topS 75) []) : Callable u "line_widths" 8 (sp_line_widths u c) [] := by
  refine fn_pure (k := 7) (ps := ["box", "line", "width"]) Df S_line_widths.scope (fun f fd F => ⟨[], F.bindsN (fun _ _ _ _ _ _ us hl => match us, hl with | [_, _, _], _ => rfl), .nil⟩) ?_ (fun _ _ _ _ h => h)
  rintro vs H Q ⟨b, l, w, D, M, h1, h2, h3, h4, h5, h6, h7, h8, h9, h10, h⟩
  refine ⟨_, _, rfl, h, fun X Z hM g hf => ?_⟩
  have S := S_line_widths
  have nm := S.nm
  obtain ⟨k1, k2⟩ := Bx.ok_kids h1
  have sp := Bx.ok_space h1
  have hD := h7.pos
  have D4 : D < 2 ^ 400 := Nat.lt_of_lt_of_le h9 (nat_pow_le (by decide))
  have Mc : ∀ x, x < 2 ^ 40 → M + x < 2 ^ 280 := fun x hx => pow_add h10 (lit_pow hx (by decide)) (by decide)
  have Mc5 : ∀ x, x < 2 ^ 40 → M + x < 2 ^ 500 := fun x hx => Nat.lt_of_lt_of_le (Mc x hx) (nat_pow_le (by decide))
  have sw : Sn w := h7.sn D4 (Mc5 0 (by decide))
  let sz : Nat → Sz := fun n => (b.kids.getD n (.box "" ⟨0, 0, none, 0, 0⟩ 0)).size
  have sz_at : ∀ n ∈ l, ∃ kd, b.kids[n]? = some kd ∧ sz n = kd.size ∧ SzOk (sz n) := fun n hn => by
    have hlt := h3 n hn
    refine ⟨b.kids[n], List.getElem?_eq_getElem hlt, ?_, ?_⟩
    · show (b.kids.getD n _).size = _
      rw [List.getD_eq_getElem?_getD, List.getElem?_eq_getElem hlt]; rfl
    · show SzOk (b.kids.getD n _).size
      rw [List.getD_eq_getElem?_getD, List.getElem?_eq_getElem hlt]
      exact (Bx.ok_size (k2 _ (List.getElem_mem hlt))).2
  have oks : ∀ s ∈ l.map sz, SzOk s := fun s hs => by
    obtain ⟨n, hn, rfl⟩ := List.mem_map.mp hs
    exact (sz_at n hn).choose_spec.2.2
  have lm : (l.map isNt).length = l.length := List.length_map ..
  refine tr_setC g (i := 3) (C := ownL ((l.map sz).map (isSz u.K))) ?_ (At.get (by k_extra "at")) (by decide +kernel) (by decide +kernel) rfl rfl (by decide +kernel) ?_
  · rw [List.map_map]
    refine jl_map g (xs := l) (A := isNt) (B := isSz u.K ∘ sz) [("number", 11)] (ji_list g (P := isLine l) (by k_extra "j") lst_L) (by decide +kernel) (by omega) (fun n => [(11, isNt n)]) (by simp) ?_ (fun _ => rfl)
    intro n hn G X' g
    have nm := nmOf g ["number", "box"] [] (by decide +kernel)
    obtain ⟨kd, e1, e2, _⟩ := sz_at n hn
    have ix : atI (b.kids.map (isBx c u.K)) (n : Int) = some (isBx c u.K kd) := atI_nat (by rw [List.getElem?_map, e1]; rfl)
    refine ⟨by k_extra "jgo", ?_⟩
    apply J.to
    · k_extra "j"
    · show _ = isSz u.K (sz n)
      rw [e2]
  refine tr_frz 3 rfl own_L ?_
  have len12 : (l.map sz).length ≤ 12 := by rw [List.length_map]; exact h4
  have lenE : (l.map sz).length = l.length := List.length_map ..
  cases hr : b.isR with
  | true =>
    apply tr_ifT
    · apply JT.to
      · k_extra "t"
      · exact hr
    have ml : CMulW b.space ((l.length : Int) - 1) := mul_small (by omega) (by omega) (by omega) (by omega)
    have g0 : 0 ≤ b.space * ((l.length : Int) - 1) ∧ b.space * ((l.length : Int) - 1) ≤ 12000 := by
      have p1 : 1 ≤ l.length := List.length_pos_iff.mpr h5
      have q1 : (0 : Int) ≤ (l.length : Int) - 1 := by omega
      have q2 : (l.length : Int) - 1 ≤ 11 := by omega
      have := Int.mul_le_mul sp.2 q2 q1 (by decide : (0 : Int) ≤ 1000)
      exact ⟨Int.mul_nonneg sp.1 q1, by omega⟩
    generalize hgap : b.space * ((l.length : Int) - 1) = gp at g0
    have bg : Bd D 12000 (gp : Rat) := Bd.int (by omega) hD
    have bw : Bd D (M + 12000) (w - (gp : Rat)) := h7.sub bg
    have sg : Sn (gp : Rat) := sn_int (by omega)
    have M2 := Mc 12000 (by decide)
    refine tr_asgX (Bb := fun q : Rat × List Rat × Rat × Rat => LwOk D (M + 12000) (l.map sz).length q.2.1 q.2.2.1) (Q := fun q => isTt [isPt u.K q.1, isL (q.2.1.map (isPt u.K)), isPt u.K q.2.2.1, isPt u.K q.2.2.2]) ?_ rfl rfl rfl ?_
    · apply jc_shared g nm c_shared rfl (ss := l.map sz) (room := w - (gp : Rat)) (D := D) (M := M + 12000)
      · k_extra "at"
      · apply ja_cons
        · k_extra "j"
        · apply ja_cons
          · apply jc_less g nm c_less rfl
            · k_extra "at"
            · apply ja_cons
              · k_extra "j"
              · apply ja_cons
                · apply jc_part_of1 g nm c_part_of1 rfl
                  · k_extra "at"
                  · apply ja_cons
                    · rw [← hgap]
                      k_extra "j"
                    · k_extra "ja"
                    · exact rfl
                  · exact rfl
                · k_extra "ja"
                · exact rfl
              · exact rfl
            · exact sw.sm.md
            · exact sg.sm.md
            · exact rfl
            · exact rfl
          · k_extra "ja"
          · exact rfl
        · exact rfl
      · exact oks
      · exact len12
      · exact bw
      · exact h8
      · exact h9
      · exact M2
      · exact rfl
      · exact rfl
    · rintro ⟨t, ws, spr, ov⟩ ⟨⟨w', w1, w2, w3, w4⟩, ln, nn, sp0⟩
      dsimp only at w3 w4 ln nn sp0 ⊢
      refine ⟨_, by k_extra "jg", ?_⟩
      apply tr_retB
      apply J.imp
      · k_extra "j"
      · exact fun S v h => ⟨(ws, spr), ⟨⟨w', w1, w2, fun x hx => (w3 x hx).mono (by unfold nx; omega), w4.mono (by unfold nx; omega)⟩, by rw [ln, lenE], nn, sp0⟩, h⟩
  | false =>
    apply tr_ifF
    · apply JT.to
      · k_extra "t"
      · exact hr
    refine tr_end ?_
    obtain ⟨n0, rfl⟩ := List.length_eq_one_iff.mp (h6 hr)
    have ok0 := oks (sz n0) (by simp)
    show Tr X Z [.val (isBx c u.K b), .val (isLine [n0]), .val (isPt u.K w), .val (isL [isSz u.K (sz n0)]), .any, .any, .any, .any, .any, .any, .any, .any] _ _
    generalize sz n0 = s0 at ok0
    obtain ⟨wi, le, mo, gr, sh⟩ := s0
    obtain ⟨q1, q2, q3, q4, q5, q6, q7, q8⟩ := id ok0
    dsimp only at q1 q2 q3 q4 q5 q6 q7 q8
    have sl : Sn (le : Rat) := sn_int (by omega)
    have bl : Bd D (M + 1000) (le : Rat) := (Bd.int (M := 1000) (by omega) hD).mono (by omega)
    have bw : Bd D (M + 1000) w := h7.mono (by omega)
    have fin : ∀ ww : Rat, Bd D (M + 1000) ww → LnOk D M 1 [max ww (le : Rat)] (max 0 (w - max ww (le : Rat))) ∧ Sn ww ∧ Sn (max ww (le : Rat)) ∧ Sn (w - max ww (le : Rat)) := fun ww hw => by
      have hm := Bd.max hw bl
      have hs := h7.sub hm
      refine ⟨⟨⟨1, by decide, by decide, fun x hx => ?_, ?_⟩, rfl, fun x hx => ?_, by grind⟩, hw.sn D4 (Mc5 _ (by decide)), hm.sn D4 (Mc5 _ (by decide)), hs.sn D4 ?_⟩
      · rw [List.mem_singleton.mp hx, Nat.mul_one]
        exact hm.mono (by unfold nx; omega)
      · rw [Nat.mul_one]
        exact Bd.max (Bd.zero hD) (hs.mono (by unfold nx; omega))
      · rw [List.mem_singleton.mp hx]
        have := rat_int_nn q1
        grind
      · have := Mc5 1000 (by decide)
        have := pow_add (n := 280) (m := 500) (Nat.lt_of_lt_of_le h10 (nat_pow_le (by decide))) (Mc 1000 (by decide)) (by decide)
        exact this
    have s0 : Sn 0 := sn_int (n := 0) (by decide)
    cases mo with
    | none =>
      refine tr_wk 3 (P' := isL [isT u.K [isI wi, isI le, isN, isI gr, isI sh]]) rfl (fun _ _ h => h) ?_
      k_extra "pair"
      apply tr_let g hf S (P := isPt u.K w)
      · k_extra "at"
      · k_extra "at"
      · exact j_ifT (by k_extra "t") (by k_extra "j")
      · exact rfl
      · exact rfl
      obtain ⟨f1, f2, f3, f4⟩ := fin w bw
      k_extra "let"
      apply tr_retP
      apply J.imp
      · k_extra "j"
      · exact fun S v h => ⟨([max w (le : Rat)], max 0 (w - max w (le : Rat))), f1, h⟩
    | some m =>
      have q9 := q4 m rfl
      have sm : Sn (m : Rat) := sn_int (by omega)
      have bm' : Bd D (M + 1000) (m : Rat) := (Bd.int (M := 1000) (by omega) hD).mono (by omega)
      refine tr_wk 3 (P' := isL [isT u.K [isI wi, isI le, isI m, isI gr, isI sh]]) rfl (fun _ _ h => h) ?_
      k_extra "pair"
      apply tr_let g hf S (P := isPt u.K (min w (m : Rat)))
      · k_extra "at"
      · k_extra "at"
      · exact j_ifF (by k_extra "t") (by k_extra "j")
      · exact rfl
      · exact rfl
      obtain ⟨f1, f2, f3, f4⟩ := fin (min w (m : Rat)) (Bd.min bw bm')
      k_extra "let"
      apply tr_retP
      apply J.imp
      · k_extra "j"
      · exact fun S v h => ⟨([max (min w (m : Rat)) (le : Rat)], max 0 (w - max (min w (m : Rat)) (le : Rat))), f1, h⟩

end Wd

end

section
set_option maxRecDepth 100000
set_option maxHeartbeats 4000000
namespace Wd
open PySem PySem.Spec L2
/-! ### places -/
def sh (x y : Rat) (r : Rw) : Rw := ⟨r.name, x + r.x, y + r.y, r.w, r.h⟩
def Sep (a b : Rw) : Prop := a.x + a.w ≤ b.x ∨ a.y + a.h ≤ b.y
mutual
inductive Laid : Bx → Rw → List Rw → Prop
  | mk {b : Bx} {r : Rw} {hs rest : List Rw} : r.name = b.name → Laids b.kids hs rest → (∀ h ∈ hs, r.x ≤ h.x ∧ r.y ≤ h.y) → hs.Pairwise Sep → Laid b r rest
inductive Laids : List Bx → List Rw → List Rw → Prop
  | nil : Laids [] [] []
  | cons {k : Bx} {ks : List Bx} {h : Rw} {hs rest more : List Rw} : Laid k h rest → Laids ks hs more → Laids (k :: ks) (h :: hs) (h :: rest ++ more)
end
theorem Sep.sh {a b : Rw} (x y : Rat) (h : Sep a b) : Sep (sh x y a) (sh x y b) := by
  rcases h with h | h
  · exact .inl (show x + a.x + a.w ≤ x + b.x by grind)
  · exact .inr (show y + a.y + a.h ≤ y + b.y by grind)
mutual
theorem Laid.sh (x y : Rat) : ∀ {b : Bx} {r : Rw} {rest : List Rw}, Laid b r rest → Laid b (Wd.sh x y r) (rest.map (Wd.sh x y))
  | _, r, _, .mk h1 h2 h3 h4 => .mk h1 (Laids.sh x y h2) (fun q hq => by
      obtain ⟨p, hp, rfl⟩ := List.mem_map.mp hq
      have := h3 p hp
      exact ⟨show x + r.x ≤ x + p.x by grind, show y + r.y ≤ y + p.y by grind⟩) (List.Pairwise.map _ (fun _ _ z => Sep.sh x y z) h4)
theorem Laids.sh (x y : Rat) : ∀ {ks : List Bx} {hs rs : List Rw}, Laids ks hs rs → Laids ks (hs.map (Wd.sh x y)) (rs.map (Wd.sh x y))
  | _, _, _, .nil => .nil
  | _, _, _, .cons h1 h2 => by
    rw [List.map_cons, List.map_append, List.map_cons]
    exact Laids.cons (Laid.sh x y h1) (Laids.sh x y h2)
end
theorem Laids.append : ∀ {ks ks' : List Bx} {hs hs' rs rs' : List Rw}, Laids ks hs rs → Laids ks' hs' rs' → Laids (ks ++ ks') (hs ++ hs') (rs ++ rs')
  | _, _, _, _, _, _, .nil, h => h
  | _, _, _, _, _, _, .cons h1 h2, h => by
    have := Laids.cons h1 (Laids.append h2 h)
    simpa using this
mutual
theorem Laid.names : ∀ {b : Bx} {r : Rw} {rest : List Rw}, Laid b r rest → (r :: rest).map Rw.name = b.names
  | _, _, _, .mk h1 h2 _ _ => by rw [List.map_cons, h1, Laids.names h2, Bx.names_eq]
theorem Laids.names : ∀ {ks : List Bx} {hs rs : List Rw}, Laids ks hs rs → rs.map Rw.name = (ks.map Bx.names).flatten
  | _, _, _, .nil => rfl
  | _, _, _, .cons h1 h2 => by rw [List.map_append, Laid.names h1, Laids.names h2]; rfl
end
/-! ### sizes of what is reckoned -/
def Bn : Nat → Nat → Nat
  | 0, M => M
  | n + 1, M => Bn n (nx M) + 13 * nx M + 12000
theorem nx_ge (M : Nat) : M ≤ nx M := by unfold nx; omega
theorem Bn_ge : ∀ (n M : Nat), M ≤ Bn n M
  | 0, M => Nat.le_refl _
  | n + 1, M => by rw [Bn]; have := nx_ge M; omega
def Tn : Nat → Nat
  | 0 => 1000
  | n + 1 => 14 * Tn n + 14000
theorem Tn_ge (n : Nat) : 1000 ≤ Tn n := by
  induction n with
  | zero => exact Nat.le_refl _
  | succ n ih => rw [Tn]; omega
def IntB (T : Nat) (q : Rat) : Prop := ∃ k : Int, q = (k : Rat) ∧ 0 ≤ k ∧ k ≤ T
theorem IntB.mono {T T' : Nat} {q : Rat} (h : IntB T q) (hT : T ≤ T') : IntB T' q := by
  obtain ⟨k, e, a, b⟩ := h
  exact ⟨k, e, a, by omega⟩
theorem IntB.add {T T' : Nat} {q r : Rat} (h : IntB T q) (h2 : IntB T' r) : IntB (T + T') (q + r) := by
  obtain ⟨k, rfl, a, b⟩ := h
  obtain ⟨l, rfl, a2, b2⟩ := h2
  exact ⟨k + l, (Rat.intCast_add k l).symm, by omega, by omega⟩
theorem IntB.max {T : Nat} {q r : Rat} (h : IntB T q) (h2 : IntB T r) : IntB T (Max.max q r) := by rw [Rat.max_def]; split <;> assumption
theorem IntB.nn {T : Nat} {q : Rat} (h : IntB T q) : 0 ≤ q := by
  obtain ⟨k, rfl, a, b⟩ := h
  exact rat_int_nn a
theorem IntB.sn {T : Nat} {q : Rat} (h : IntB T q) (hT : T < 2 ^ 100) : Sn q := by
  obtain ⟨k, rfl, a, b⟩ := h
  exact ⟨by rw [Rat.num_intCast]; exact Nat.lt_of_lt_of_le (Nat.lt_of_le_of_lt (show k.natAbs ≤ T by omega) hT) (nat_pow_le (by decide)), by rw [Rat.den_intCast]; exact Nat.one_lt_two_pow (by decide)⟩
theorem IntB.zero {T : Nat} : IntB T 0 := ⟨0, by simp, by decide, by omega⟩
/-- the bounds of a place -/
structure RB (D Dm Bm T : Nat) (r : Rw) : Prop where
  ex : ∃ E : Nat, D ∣ E ∧ 0 < E ∧ E ≤ Dm ∧ Bd E Bm r.x ∧ Bd E Bm r.w
  y : IntB T r.y
  h : IntB T r.h
theorem RB.mono {D Dm Bm T Dm' Bm' T' : Nat} {r : Rw} (h : RB D Dm Bm T r) (h1 : Dm ≤ Dm') (h2 : Bm ≤ Bm') (h3 : T ≤ T') : RB D Dm' Bm' T' r := by
  obtain ⟨E, a, b, c, d, e⟩ := h.ex
  exact ⟨⟨E, a, b, Nat.le_trans c h1, d.mono h2, e.mono h2⟩, h.y.mono h3, h.h.mono h3⟩
structure RwSn (r : Rw) : Prop where
  x : Sn r.x
  y : Sn r.y
  w : Sn r.w
  h : Sn r.h
theorem RB.sn {D Dm Bm T : Nat} {r : Rw} (h : RB D Dm Bm T r) (h1 : Dm < 2 ^ 300) (h2 : Bm < 2 ^ 300) (h3 : T < 2 ^ 100) : RwSn r := by
  obtain ⟨E, a, b, c, d, e⟩ := h.ex
  have hE : E < 2 ^ 400 := Nat.lt_of_le_of_lt c (Nat.lt_of_lt_of_le h1 (nat_pow_le (by decide)))
  have hB : Bm < 2 ^ 500 := Nat.lt_of_lt_of_le h2 (nat_pow_le (by decide))
  exact ⟨d.sn hE hB, h.y.sn h3, e.sn hE hB, h.h.sn h3⟩
/-- a place of a line moved to where it belongs -/
theorem RB.sh {D w Dm Bm Bx' T Ty : Nat} {x y : Rat} {r : Rw} (h : RB (D * w) Dm Bm T r) (hx : Bd (D * w * 2) Bx' x) (hy : IntB Ty y) : RB D (Dm * 2) (Bm + Bx') (Ty + T) (sh x y r) := by
  obtain ⟨E, ⟨c, rfl⟩, b, d, e, f⟩ := h.ex
  refine ⟨⟨D * w * c * 2, ⟨w * c * 2, by ac_rfl⟩, by omega, by omega, ?_, ?_⟩, hy.add h.y, h.h.mono (by omega)⟩
  · have e2 : Bd (D * w * c * 2) Bm r.x := e.times (by decide)
    have x2 : Bd (D * w * c * 2) Bx' x := hx.dvd ⟨c, by ac_rfl⟩ (by omega)
    exact (x2.add e2).mono (by omega)
  · exact (f.times (c := 2) (by decide)).mono (by omega)

end Wd

end

section
set_option maxRecDepth 100000
set_option maxHeartbeats 4000000
namespace Wd
open PySem PySem.Spec L2
section
variable {X : Cx} {Z : Zn} {Γ : List Ty} {tg : Expr} {P : Pr} {l l' : List (Nat × Pr)}
theorem JG.to (h : JG X Z Γ tg P l) (e : l = l') : JG X Z Γ tg P l' := e ▸ h
end
theorem S_shifted : FnS ["rows", "x", "y", "name", "left", "up", "wide", "tall"] ["rows", "x", "y"] ["rows", "x", "y"] [] (defScope (topS 76)) := ⟨by decide +kernel⟩
def sp_shifted (u : Uni) : Sp := fun vs H Q _ => ∃ (rows : List Rw) (x y : Rat), (∀ r ∈ rows, RwSn r) ∧ (Sn x) ∧ (Sn y) ∧ (rows.length ≤ 1000) ∧ Pf [isL (rows.map (isRw u.K)), isPt u.K x, isPt u.K y] (isL ((rows.map (sh x y)).map (isRw u.K))) vs H Q
theorem jc_shifted {u : Uni} {N V G : List Str} {sc : Scope} {k l j : Nat} {X : Cx} {Z : Zn} {Γ : List Ty} {e0 e1 e2 : Expr} {pos p : Pos} {rows : List Rw} {x y : Rat} (g : Good u N sc k X) (nm : Nm sc V G) (F : Callable u "shifted" l (sp_shifted u) []) (hl : Nat.ble l k = true) (hG : At G j "shifted") (ha : JA X Z Γ [e0, e1, e2] [isL (rows.map (isRw u.K)), isPt u.K x, isPt u.K y]) (h1 : ∀ r ∈ rows, RwSn r) (h2 : Sn x) (h3 : Sn y) (h4 : rows.length ≤ 1000) (hs : starEach [e0, e1, e2] X.env = (false, eval e0 X.env) :: starEach [e1, e2] X.env) (hp : (backTo pos (starEach [e1, e2] X.env)).any (·.1) = false) : J X Z Γ (.Call (.Name "shifted" p) [e0, e1, e2] [] pos) (isL ((rows.map (sh x y)).map (isRw u.K))) :=
  j_call g F (Nat.le_of_ble_eq_true hl) (fun _ _ _ h => ⟨rows, x, y, h1, h2, h3, h4, h⟩) ha (nm.gl hG) hs hp
example : True := by
  k_with "call" => ((with_reducible apply jc_shifted g nm c_shifted); (· exact rfl); (· k_extra "at"); (· k_extra "ja"); (· k_extra "side"); (· k_extra "side"); (· k_extra "side"); (· k_extra "side"); (· exact rfl); (· exact rfl))
  trivial
theorem c_shifted {u : Uni} (c_added : Callable u "added" 3 (sp_added u) []) (Df : Defd u "shifted" "shifted" (topS 76) []) : Callable u "shifted" 4 (sp_shifted u) [] := by
  refine fn_pure (k := 3) (ps := ["rows", "x", "y"]) Df S_shifted.scope (fun f fd F => ⟨[], F.bindsN (fun _ _ _ _ _ _ us hl => match us, hl with | [_, _, _], _ => rfl), .nil⟩) ?_ (fun _ _ _ _ h => h)
  rintro vs H Q ⟨rows, x, y, h1, h2, h3, h4, h⟩
  refine ⟨_, _, rfl, h, fun X Z hM g hf => ?_⟩
  have S := S_shifted
  have nm := S.nm
  have x1 := h2.sm
  have y1 := h3.sm
  apply tr_retP
  rw [List.map_map]
  refine j_comp (jn_map g (xs := rows) (A := isRw u.K) (B := isRw u.K ∘ sh x y) [("name", 3), ("left", 4), ("up", 5), ("wide", 6), ("tall", 7)] (by k_extra "ji") (by decide +kernel) h4 (fun r => [(3, isS r.name), (4, isPt u.K r.x), (5, isPt u.K r.y), (6, isPt u.K r.w), (7, isPt u.K r.h)]) (by simp) ?_ (fun _ => rfl))
  intro r hr G X' g
  have nm := nmOf g ["name", "left", "up", "wide", "tall", "x", "y"] ["added"] (by decide +kernel)
  obtain ⟨s1, s2, s3, s4⟩ := h1 r hr
  have r1 := s1.sm
  have r2 := s2.sm
  constructor
  · apply JG.to
    · k_extra "jgo"
    · rfl
  apply J.imp
  · k_extra "j"
  · exact fun S v h => tt_T S v h

end Wd

end

section
set_option maxRecDepth 100000
set_option maxHeartbeats 4000000
namespace Wd
open PySem PySem.Spec L2
def leanOf (s : Str) : Rat := if s = "left" then 0 else if s = "amid" then mkRat 1 2 else 1
/-- what the table of leans tells -/
structure LeanD (u : Uni) : Prop where
  at_ : ∀ {N : List Str} {sc : Scope} {k : Nat} {X : Cx} {Z : Zn} {Γ : List Ty} {e : Expr} {p pos : Pos} {s : Str}, Good u N sc k X → okGl sc "LEANS_laying" = true → s ∈ leansL → J X Z Γ e (isS s) → PlainIx e → J X Z Γ (.Subscript (.Name "LEANS_laying" p) e pos) (isPt u.K (leanOf s))
theorem lean_nn (s : Str) : 0 ≤ leanOf s := by
  unfold leanOf
  split
  · exact Rat.le_refl
  · split
    · decide +kernel
    · decide +kernel
theorem lean_bd {D M : Nat} {q : Rat} (s : Str) (h : Bd D M q) : Bd (D * 2) M (q * leanOf s) := by
  unfold leanOf
  split
  · rw [Rat.mul_zero]; exact Bd.zero (by have := h.pos; omega)
  · split
    · exact h.half
    · rw [Rat.mul_one]; exact h.times (by decide)
theorem lean_sn (s : Str) : Sn (leanOf s) := by
  unfold leanOf
  split
  · exact sn_int (n := 0) (by decide)
  · split
    · exact ⟨Nat.lt_of_lt_of_le (show (mkRat 1 2).num.natAbs < 2 ^ 10 by decide +kernel) (nat_pow_le (by decide)), Nat.lt_of_lt_of_le (show (mkRat 1 2).den < 2 ^ 10 by decide +kernel) (nat_pow_le (by decide))⟩
    · exact sn_int (n := 1) (by decide)
def kidAt (b : Bx) (n : Nat) : Bx := b.kids.getD n (.box "" ⟨0, 0, none, 0, 0⟩ 0)
theorem kidAt_get {b : Bx} {n : Nat} (h : n < b.kids.length) : b.kids[n]? = some (kidAt b n) := by
  unfold kidAt
  rw [List.getD_eq_getElem?_getD, List.getElem?_eq_getElem h]; rfl
theorem kidAt_mem {b : Bx} {n : Nat} (h : n < b.kids.length) : kidAt b n ∈ b.kids := List.mem_of_getElem? (kidAt_get h)
theorem kids_range (b : Bx) : (List.range b.kids.length).map (kidAt b) = b.kids := by
  apply List.ext_getElem?
  intro i
  rw [List.getElem?_map]
  by_cases h : i < b.kids.length
  · rw [List.getElem?_range h, kidAt_get h]; rfl
  · rw [List.getElem?_eq_none (by rw [List.length_range]; omega), List.getElem?_eq_none (by omega)]; rfl
/-- the promise of placed -/
structure PlOk (n D M : Nat) (b : Bx) (W : Rat) (r : Rw) (rest : List Rw) : Prop where
  laid : Laid b r rest
  x : r.x = 0
  y : r.y = 0
  w : r.w = W
  rb : ∀ q ∈ r :: rest, RB D (D * 960 ^ n) (Bn n M) (Tn n) q
/-- what is asked of a box and a width -/
structure PlIn (n D M : Nat) (b : Bx) (W : Rat) : Prop where
  ok : b.ok
  dep : b.dep ≤ n
  few : b.names.length ≤ 40
  nn : 0 ≤ W
  bd : Bd D M W
  ll : LL ∣ D
  d : D * 960 ^ n < 2 ^ 300
  m : Bn n M < 2 ^ 260
  n6 : n ≤ 6
theorem Tn_small {n : Nat} (h : n ≤ 6) : Tn n < 2 ^ 60 := by
  have : ∀ m : Nat, m < 7 → Tn m < 2 ^ 60 := by decide +kernel
  exact this n (by omega)
def sp_placed (u : Uni) (c : Cl) (n : Nat) : Sp := fun vs H Q _ => ∃ (b : Bx) (W : Rat) (D M : Nat), PlIn n D M b W ∧ Pf [isBx c u.K b, isPt u.K W] (Pr.ex fun q : Rw × List Rw => Pr.and (PlOk n D M b W q.1 q.2) (isL ((q.1 :: q.2).map (isRw u.K)))) vs H Q
/-- the promise of line_laid -/
structure LlOk (n D M : Nat) (b : Bx) (l : List Nat) (y : Rat) (hs rows : List Rw) (high : Rat) : Prop where
  laid : Laids (l.map (kidAt b)) hs rows
  heads : ∀ h ∈ hs, 0 ≤ h.x ∧ h.y = y ∧ h.h ≤ high
  sep : hs.Pairwise Sep
  high : IntB (Tn n) high
  rb : ∀ q ∈ rows, RB D (D * 960 ^ (n + 1)) (Bn (n + 1) M) (Tn (n + 1)) q
structure LlIn (n D M : Nat) (b : Bx) (l : List Nat) (W y : Rat) : Prop where
  ok : b.ok
  nb : b.isB = false
  dep : b.dep ≤ n + 1
  few : b.names.length ≤ 40
  lv : ∀ i ∈ l, i < b.kids.length
  l12 : l.length ≤ 12
  ne : l ≠ []
  one : b.isR = false → l.length = 1
  bd : Bd D M W
  ll : LL ∣ D
  d : D * 960 ^ (n + 1) < 2 ^ 300
  m : Bn (n + 1) M < 2 ^ 260
  n5 : n + 1 ≤ 6
  y : IntB (12 * (Tn n + 1000)) y
def sp_line_laid (u : Uni) (c : Cl) (n : Nat) : Sp := fun vs H Q _ => ∃ (b : Bx) (l : List Nat) (W y : Rat) (D M : Nat), LlIn n D M b l W y ∧ Pf [isBx c u.K b, isLine l, isPt u.K W, isPt u.K y]
  (Pr.ex fun q : List Rw × List Rw × Rat => Pr.and (LlOk n D M b l y q.1 q.2.1 q.2.2) (isTt [isL (q.2.1.map (isRw u.K)), isPt u.K q.2.2])) vs H Q
theorem names_kid {b k : Bx} (h : k ∈ b.kids) : k.names.length ≤ b.names.length := by
  rw [Bx.names_eq b, List.length_cons]
  have : ∀ ks : List Bx, k ∈ ks → k.names.length ≤ (ks.map Bx.names).flatten.length := by
    intro ks
    induction ks with
    | nil => intro h; cases h
    | cons a ks ih =>
      intro h
      rw [List.map_cons, List.flatten_cons, List.length_append]
      rcases List.mem_cons.mp h with rfl | h
      · omega
      · have := ih h; omega
  have := this b.kids h
  omega
theorem rows_len {l : List Nat} {b : Bx} {hs rows : List Rw} (h : Laids (l.map (kidAt b)) hs rows) (hl : ∀ i ∈ l, i < b.kids.length) (hb : b.names.length ≤ 40) : rows.length ≤ l.length * 40 := by
  have e := congrArg List.length h.names
  rw [List.length_map] at e
  rw [e, List.map_map]
  clear e h
  induction l with
  | nil => simp
  | cons i l ih =>
    rw [List.map_cons, List.flatten_cons, List.length_append, List.length_cons, Nat.add_mul]
    have h1 := ih fun j hj => hl j (List.mem_cons_of_mem _ hj)
    have h2 := names_kid (kidAt_mem (hl i List.mem_cons_self))
    show (kidAt b i).names.length + _ ≤ _
    omega
theorem S_line_laid : FnS ["box", "line", "width", "y", "widths", "spare", "x", "high", "found", "number", "wide", "rows"] ["box", "line", "width", "y"] ["box", "line", "width", "y", "widths", "spare", "x", "high", "found", "number", "wide", "rows"] ["line_widths", "product", "LEANS_laying", "NOUGHT_laying", "zip", "placed", "shifted", "greater", "added", "part_of"] (defScope (topS 77)) := ⟨by decide +kernel⟩
theorem c_line_laid {u : Uni} {c : Cl} (bt : Bts u) (bm : BxM u c) (ld : LeanD u) (n : Nat) (c_placed : Callable u "placed" (2 * n + 12) (sp_placed u c n) []) (c_line_widths : Callable u "line_widths" 8 (sp_line_widths u c) []) (c_shifted : Callable u "shifted" 4 (sp_shifted u) [])
    (c_product : Callable u "product" 3 (sp_product u) []) (c_added : Callable u "added" 3 (sp_added u) []) (c_greater : Callable u "greater" 2 (sp_greater u) [])
    (c_part_of1 : Callable u "part_of" 2 (sp_part_of u) [.int 1]) (gN : Glo u "NOUGHT_laying" (isPt u.K 0)) (Df : Defd u "line_laid" "line_laid" (topS 77) []) : Callable u "line_laid" (2 * n + 13) (sp_line_laid u c n) [] := by
  refine fn_pure (k := 2 * n + 12) (ps := ["box", "line", "width", "y"]) Df S_line_laid.scope (fun f fd F => ⟨[], F.bindsN (fun _ _ _ _ _ _ us hl => match us, hl with | [_, _, _, _], _ => rfl), .nil⟩) ?_ (fun _ _ _ _ h => h)
  rintro vs H Q ⟨b, l, W, y, D, M, I, h⟩
  refine ⟨_, _, rfl, h, fun X Z hM g hf => ?_⟩
  have S := S_line_laid
  have nm := S.nm
  have sp := Bx.ok_space I.ok
  have hD := I.bd.pos
  have pw : 1 ≤ 960 ^ (n + 1) := Nat.one_le_pow _ _ (by decide)
  have D3 : D < 2 ^ 300 := Nat.lt_of_le_of_lt (Nat.le_mul_of_pos_right _ pw) I.d
  have M26 : M < 2 ^ 260 := Nat.lt_of_le_of_lt (Bn_ge _ _) I.m
  have M27 : M < 2 ^ 270 := Nat.lt_of_lt_of_le M26 (nat_pow_le (by decide))
  have hBn : Bn (n + 1) M = Bn n (nx M) + 13 * nx M + 12000 := rfl
  have hTn : Tn (n + 1) = 14 * Tn n + 14000 := rfl
  have T60 := Tn_small I.n5
  have T100 : Tn (n + 1) < 2 ^ 100 := Nat.lt_of_lt_of_le T60 (nat_pow_le (by decide))
  refine tr_asgX (Bb := fun q : List Rat × Rat => LnOk D M l.length q.1 q.2) (Q := fun q => isTt [isL (q.1.map (isPt u.K)), isPt u.K q.2]) ?_ rfl rfl rfl ?_
  · refine j_call g c_line_widths (by omega) (ret := Pr.ex fun q : List Rat × Rat => Pr.and (LnOk D M l.length q.1 q.2) (isTt [isL (q.1.map (isPt u.K)), isPt u.K q.2])) (Ps := [isBx c u.K b, isLine l, isPt u.K W]) (fun vs H Q h => ⟨b, l, W, D, M, I.ok, I.nb, I.lv, I.l12, I.ne, I.one, I.bd, I.ll, D3, M27, h⟩) ?_ (nm.gl (by k_extra "at")) rfl rfl
    k_extra "ja"
  rintro ⟨ws, spr⟩ ⟨⟨w, w1, w2, w3, w4⟩, wn, wnn, sp0⟩
  dsimp only at w3 w4 wn wnn sp0 ⊢
  generalize hM1 : nx M = M1 at w3 w4 hBn
  have hDw : 0 < D * w := Nat.mul_pos hD w1
  have Im := I.m
  rw [hBn] at Im
  have M1s : M1 < 2 ^ 260 := Nat.lt_of_le_of_lt (by omega) Im
  have Xs : ∀ i, i ≤ 12 → M1 + i * (M1 + 1000) ≤ 13 * M1 + 12000 := fun i hi => by
    have := Nat.mul_le_mul_right (M1 + 1000) hi
    omega
  have Bn1 : Bn n M1 < 2 ^ 260 := Nat.lt_of_le_of_lt (by omega) Im
  have Xlt : 13 * M1 + 12000 < 2 ^ 260 := Nat.lt_of_le_of_lt (by omega) Im
  have X5 : 13 * M1 + 12000 < 2 ^ 500 := Nat.lt_of_lt_of_le Xlt (nat_pow_le (by decide))
  have p960 : 960 ^ (n + 1) = 960 ^ n * 960 := Nat.pow_succ ..
  have pn : 1 ≤ 960 ^ n := Nat.one_le_pow _ _ (by decide)
  have Dw : D * w * 960 ^ n * 2 ≤ D * 960 ^ (n + 1) := by
    rw [p960]
    calc D * w * 960 ^ n * 2 = D * 960 ^ n * (w * 2) := by ac_rfl
      _ ≤ D * 960 ^ n * 960 := Nat.mul_le_mul_left _ (by omega)
      _ = D * (960 ^ n * 960) := Nat.mul_assoc ..
  have Dw1 : D * w ≤ D * w * 960 ^ n := Nat.le_mul_of_pos_right _ pn
  have Dw3 : D * w * 960 ^ n < 2 ^ 300 := Nat.lt_of_le_of_lt (by omega) I.d
  have Dw4 : D * w * 2 < 2 ^ 400 := Nat.lt_of_le_of_lt (by omega) (Nat.lt_of_lt_of_le I.d (nat_pow_le (by decide)))
  have Dw5 : D * w < 2 ^ 400 := by omega
  have ws_sn : ∀ x ∈ ws, Sn x := fun x hx => (w3 x hx).sn Dw5 (by omega)
  have s_spr : Sn spr := w4.sn Dw5 (by omega)
  have s_lean := lean_sn b.side
  have jl : ∀ {Z Γ e p pos}, J X Z Γ e (isS b.side) → PlainIx e → J X Z Γ (.Subscript (.Name "LEANS_laying" p) e pos) (isPt u.K (leanOf b.side)) := fun h1 h2 => ld.at_ g (nm.gl (by k_extra "at")) (Bx.ok_side I.ok I.nb) h1 h2
  refine ⟨_, by k_extra "jg", ?_⟩
  have nb := I.nb
  apply tr_let g hf S (P := isPt u.K (spr * leanOf b.side))
  · k_extra "at"
  · k_extra "at"
  · apply jc_product g nm c_product rfl
    · k_extra "at"
    · apply ja_cons
      · k_extra "j"
      · apply ja_cons
        · apply jl
          · k_extra "j"
          · exact fun _ _ => rfl
        · k_extra "ja"
        · exact rfl
      · exact rfl
    · exact s_spr.sm.md
    · exact s_lean.sm.md
    · exact rfl
    · exact rfl
  · exact rfl
  · exact rfl
  k_extra "let"
  k_extra "letN"
  have lw : (l.map isNt).length = (ws.map (isPt u.K)).length := by rw [List.length_map, List.length_map, wn]
  refine tr_forD g (Ps := zipP (l.map isNt) (ws.map (isPt u.K))) (ji_zip g bt nm (P1 := isLine l) (P2 := isL (ws.map (isPt u.K))) (by k_extra "at") (by k_extra "j") (by k_extra "j") lst_L lst_L lw rfl rfl rfl)
    (fun i (a : List Rw × List Rw × Rat × Rat) => [.val (isBx c u.K b), .val (isLine l), .val (isPt u.K W), .val (isPt u.K y), .val (isL (ws.map (isPt u.K))), .val (isPt u.K spr), .val (isPt u.K a.2.2.1), .val (isPt u.K a.2.2.2), .own true (ownL (a.2.1.map (isRw u.K))), .any, .any, .any])
    (fun i a => Laids ((l.take i).map (kidAt b)) a.1 a.2.1 ∧ (∀ h ∈ a.1, 0 ≤ h.x ∧ h.y = y ∧ h.h ≤ a.2.2.2 ∧ h.x + h.w ≤ a.2.2.1) ∧ a.1.Pairwise Sep ∧ 0 ≤ a.2.2.1 ∧ Bd (D * w * 2) (M1 + i * (M1 + 1000)) a.2.2.1 ∧ IntB (Tn n) a.2.2.2 ∧ ∀ q ∈ a.2.1, RB D (D * 960 ^ (n + 1)) (Bn (n + 1) M) (Tn (n + 1)) q)
    ([], [], spr * leanOf b.side, 0) ⟨.nil, (fun _ h => nomatch h), .nil, Rat.mul_nonneg sp0 (lean_nn _), (lean_bd b.side w4).mono (by omega), .zero, (fun _ h => nomatch h)⟩ (by k_extra "sub") ?_ ?_ (fun _ => rfl)
  · rintro i P ⟨hs, rows, x, high⟩ G hP ⟨f1, f2, f3, f4, f5, f6, f7⟩
    dsimp only at f1 f2 f3 f4 f5 f6 f7 ⊢
    obtain ⟨P1, Q1, e1, e2, rfl⟩ := zipP_get hP
    obtain ⟨m, hm, rfl⟩ := getElem_map e1
    obtain ⟨wd, hwd, rfl⟩ := getElem_map e2
    have hi : i < l.length := get_lt hm
    have hi12 := I.l12
    have hmk := I.lv m (List.mem_of_getElem? hm)
    have kd := kidAt_mem hmk
    have ix : atI (b.kids.map (isBx c u.K)) (m : Int) = some (isBx c u.K (kidAt b m)) := atI_nat (by rw [List.getElem?_map, kidAt_get hmk]; rfl)
    have kin : PlIn n (D * w) M1 (kidAt b m) wd := ⟨(Bx.ok_kids I.ok).2 _ kd, Bx.dep_kids I.dep _ kd, Nat.le_trans (names_kid kd) I.few, wnn wd (List.mem_of_getElem? hwd), w3 wd (List.mem_of_getElem? hwd), Nat.dvd_trans I.ll ⟨w, rfl⟩, Dw3, Bn1, by have := I.n5; omega⟩
    have w0 := wnn wd (List.mem_of_getElem? hwd)
    have bwd := w3 wd (List.mem_of_getElem? hwd)
    have Tn2 : Tn n < 2 ^ 100 := Nat.lt_of_le_of_lt (by omega) T100
    have sx : Sn x := f5.sn Dw4 (Nat.lt_of_le_of_lt (Xs i (by omega)) X5)
    have sy : Sn y := I.y.sn (Nat.lt_of_le_of_lt (by omega) T100)
    have shh : Sn high := f6.sn Tn2
    have swd : Sn wd := ws_sn wd (List.mem_of_getElem? hwd)
    have ssp : Sn (b.space : Rat) := sn_int (by omega)
    have sp2 := rat_int_nn sp.1
    have lt40 := rows_len f1 (fun j hj => I.lv j (List.mem_of_mem_take hj)) I.few
    rw [List.length_take] at lt40
    refine ⟨_, by k_extra "jg", ?_⟩
    apply tr_let g hf S (P := Pr.ex fun q : Rw × List Rw => Pr.and (PlOk n (D * w) M1 (kidAt b m) wd q.1 q.2) (isL ((q.1 :: q.2).map (isRw u.K))))
    · k_extra "at"
    · k_extra "at"
    · refine j_call g c_placed (Nat.le_refl _) (Ps := [isBx c u.K (kidAt b m), isPt u.K wd]) (fun vs H Q h => ⟨kidAt b m, wd, D * w, M1, kin, h⟩) ?_ (nm.gl (by k_extra "at")) rfl rfl
      k_extra "ja"
    · exact rfl
    · exact rfl
    refine tr_ex 11 rfl fun ⟨r, rest⟩ => tr_and 11 rfl fun ⟨lo, rx, ry, rw', rb⟩ => ?_
    dsimp only at lo rx ry rw' rb ⊢
    have rsn : ∀ q ∈ r :: rest, RwSn q := fun q hq => (rb q hq).sn Dw3 (Nat.lt_of_lt_of_le Bn1 (nat_pow_le (by decide))) Tn2
    have rl : (r :: rest).length ≤ 40 := by
      have e := congrArg List.length lo.names
      rw [List.length_map] at e
      rw [e]
      exact kin.few
    have rl2 : (r :: rest).length ≤ 1000 := by omega
    have sr := (rsn r List.mem_cons_self).h
    have ext : (rows.map (isRw u.K)).length + (((r :: rest).map (sh x y)).map (isRw u.K)).length ≤ 1000 := by
      rw [List.length_map, List.length_map, List.length_map]; omega
    apply tr_extendA g hf S
    · k_extra "at"
    · k_extra "at"
    · exact rfl
    · apply jc_shifted g nm c_shifted rfl (rows := r :: rest) (x := x) (y := y)
      · k_extra "at"
      · k_extra "ja"
      · exact rsn
      · exact sx
      · exact sy
      · exact rl2
      · exact rfl
      · exact rfl
    · exact ext
    have ix0 : atI ((r :: rest).map (isRw u.K)) 0 = some (isRw u.K r) := by unfold atI ixN; rw [if_pos (by decide), if_pos (by simp)]; rfl
    apply tr_let g hf S (P := isPt u.K (max high r.h))
    · k_extra "at"
    · k_extra "at"
    · apply jc_greater g nm c_greater rfl
      · k_extra "at"
      · k_extra "ja"
      · exact shh.sm.md
      · exact sr.sm.md
      · exact rfl
      · exact rfl
    · exact rfl
    · exact rfl
    have bsp : Bd (D * w * 2) 1000 (b.space : Rat) := Bd.int (by omega) (by omega)
    have bwd2 : Bd (D * w * 2) M1 wd := bwd.times (by decide)
    have b1 : Bd (D * w * 2) (M1 + 1000) (wd + (b.space : Rat)) := bwd2.add bsp
    have s1 : Sn (wd + (b.space : Rat)) := b1.sn Dw4 (by omega)
    apply tr_let g hf S (P := isPt u.K (x + (wd + (b.space : Rat))))
    · k_extra "at"
    · k_extra "at"
    · apply jc_added g nm c_added rfl
      · k_extra "at"
      · apply ja_cons
        · k_extra "j"
        · apply ja_cons
          · apply jc_added g nm c_added rfl
            · k_extra "at"
            · k_extra "ja"
            · exact swd.sm.md
            · exact ssp.sm.md
            · exact rfl
            · exact rfl
          · k_extra "ja"
          · exact rfl
        · exact rfl
      · exact sx.sm.md
      · exact s1.sm.md
      · exact rfl
      · exact rfl
    · exact rfl
    · exact rfl
    refine tr_turnD (hs ++ [sh x y r], rows ++ (r :: rest).map (sh x y), x + (wd + (b.space : Rat)), max high r.h) rfl ⟨?_, ?_, ?_, ?_, ?_, ?_, ?_⟩ ?_
    · rw [List.take_succ, hm, List.map_append]
      have l1 : Laids [kidAt b m] [sh x y r] ((r :: rest).map (sh x y)) := by
        have := Laids.cons (lo.sh x y) Laids.nil
        rwa [List.append_nil] at this
      exact f1.append l1
    · intro h hh
      dsimp only at hh ⊢
      rcases List.mem_append.mp hh with z | z
      · obtain ⟨g1, g2, g3, g4⟩ := f2 h z
        exact ⟨g1, g2, by grind, by grind⟩
      · rw [List.mem_singleton.mp z]
        refine ⟨show 0 ≤ x + r.x by grind, show y + r.y = y by grind, show r.h ≤ max high r.h by grind, show x + r.x + r.w ≤ _ by grind⟩
    · refine List.pairwise_append.mpr ⟨f3, List.pairwise_singleton .., fun h hh q hq => ?_⟩
      rw [List.mem_singleton.mp hq]
      obtain ⟨g1, g2, g3, g4⟩ := f2 h hh
      exact .inl (show h.x + h.w ≤ x + r.x by grind)
    · show 0 ≤ x + (wd + (b.space : Rat))
      grind
    · exact (f5.add b1).mono (by rw [Nat.add_mul]; omega)
    · exact f6.max (rb r List.mem_cons_self).h
    · intro q hq
      rcases List.mem_append.mp hq with z | z
      · exact f7 q z
      · obtain ⟨q0, hq0, rfl⟩ := List.mem_map.mp z
        have := (rb q0 hq0).sh (f5.mono (Xs i (by omega))) I.y
        exact this.mono Dw (by omega) (by omega)
    · rw [List.map_append]
      k_extra "sub"
  · rintro ⟨hs, rows, x, high⟩ ⟨f1, f2, f3, f4, f5, f6, f7⟩
    dsimp only at f1 f2 f3 f4 f5 f6 f7 ⊢
    rw [zipP_len lw, List.length_map, List.take_length] at f1
    refine tr_frz 8 rfl own_L ?_
    apply tr_retP
    apply J.imp
    · k_extra "j"
    · exact fun S v h => ⟨(hs, rows, high), ⟨f1, fun h hh => ⟨(f2 h hh).1, (f2 h hh).2.1, (f2 h hh).2.2.1⟩, f3, f6, f7⟩, h⟩

end Wd

end

section
set_option maxRecDepth 100000
set_option maxHeartbeats 4000000
namespace Wd
open PySem PySem.Spec L2
theorem S_placed : FnS ["box", "width", "found", "y", "high", "line", "rows", "tall"] ["box", "width"] ["box", "width", "found", "y", "high", "line", "rows", "tall"] ["isinstance", "Row", "Column", "NOUGHT_laying", "part_of", "lines_in", "line_laid", "added"] (defScope (topS 78)) := ⟨by decide +kernel⟩
theorem S_laid : FnS ["box", "width"] ["box", "width"] ["box", "width"] ["need_width", "placed"] (defScope (topS 79)) := ⟨by decide +kernel⟩
theorem take_flat {ls : List (List Nat)} {i : Nat} {l : List Nat} (h : ls[i]? = some l) : (ls.take (i + 1)).flatten = (ls.take i).flatten ++ l := by
  rw [List.take_succ, h, List.flatten_append]; simp
theorem line_in {ls : List (List Nat)} {l : List Nat} {n : Nat} (h : ls.flatten = List.range n) (hl : l ∈ ls) : (∀ i ∈ l, i < n) ∧ l.length ≤ n := by
  refine ⟨fun i hi => List.mem_range.mp (h ▸ List.mem_flatten.mpr ⟨l, hl, hi⟩), ?_⟩
  have : l.length ≤ ls.flatten.length := by
    clear h
    induction ls with
    | nil => cases hl
    | cons a ls ih =>
      rw [List.flatten_cons, List.length_append]
      rcases List.mem_cons.mp hl with rfl | hl
      · omega
      · have := ih hl; omega
  rwa [h, List.length_range] at this
theorem c_placedN {u : Uni} {c : Cl} (bt : Bts u) (bm : BxM u c) (bq : BxK u c) (ld : LeanD u) (c_lines_in : Callable u "lines_in" 5 (sp_lines_in u c) []) (c_line_widths : Callable u "line_widths" 8 (sp_line_widths u c) []) (c_shifted : Callable u "shifted" 4 (sp_shifted u) [])
    (c_product : Callable u "product" 3 (sp_product u) []) (c_added : Callable u "added" 3 (sp_added u) []) (c_greater : Callable u "greater" 2 (sp_greater u) [])
    (c_part_of1 : Callable u "part_of" 2 (sp_part_of u) [.int 1]) (gN : Glo u "NOUGHT_laying" (isPt u.K 0)) (Dl : Defd u "line_laid" "line_laid" (topS 77) []) (Df : Defd u "placed" "placed" (topS 78) []) : ∀ n, Callable u "placed" (2 * n + 12) (sp_placed u c n) [] := by
  have hb : ∀ f fd, FunD u.K "placed" "placed" (defArgs (topS 78)) (defBody (topS 78)) (defScope (topS 78)) [] [] f fd → ∃ ds, Binds u.K fd ["box", "width"] ds ∧ Vals [] ds := fun f fd F => ⟨[], F.bindsN (fun _ _ _ _ _ _ us hl => match us, hl with | [_, _], _ => rfl), .nil⟩
  intro n
  induction n with
  | zero => exact fn_pure (k := 11) (ps := ["box", "width"]) Df S_placed.scope hb (fun vs H Q ⟨b, W, D, M, I, _⟩ => absurd I.dep (by have := b.dep_pos; omega)) (fun _ _ _ _ h => h)
  | succ n ih =>
    have c_line_laid := c_line_laid bt bm ld n ih c_line_widths c_shifted c_product c_added c_greater c_part_of1 gN Dl
    refine fn_pure (k := 2 * n + 13) (ps := ["box", "width"]) Df S_placed.scope hb ?_ (fun _ _ _ _ h => h)
    rintro vs H Q ⟨b, W, D, M, I, h⟩
    refine ⟨_, _, rfl, h, fun X Z hM g hf => ?_⟩
    have S := S_placed
    have nm := S.nm
    have hD := I.bd.pos
    have pw : 1 ≤ 960 ^ (n + 1) := Nat.one_le_pow _ _ (by decide)
    have Dle : D ≤ D * 960 ^ (n + 1) := Nat.le_mul_of_pos_right _ pw
    have D3 : D < 2 ^ 300 := Nat.lt_of_le_of_lt Dle I.d
    have M26 : M < 2 ^ 260 := Nat.lt_of_le_of_lt (Bn_ge _ _) I.m
    have sW : Sn W := I.bd.sn (Nat.lt_of_lt_of_le D3 (nat_pow_le (by decide))) (Nat.lt_of_lt_of_le M26 (nat_pow_le (by decide)))
    have T1 := Tn_ge (n + 1)
    have hTn : Tn (n + 1) = 14 * Tn n + 14000 := rfl
    have T100 : Tn (n + 1) < 2 ^ 100 := Nat.lt_of_lt_of_le (Tn_small I.n6) (nat_pow_le (by decide))
    have headB : ∀ (nm' : Str) (hh : Rat), IntB (Tn (n + 1)) hh → RB D (D * 960 ^ (n + 1)) (Bn (n + 1) M) (Tn (n + 1)) ⟨nm', 0, 0, W, hh⟩ := fun nm' hh h => ⟨⟨D, Nat.dvd_refl _, hD, Dle, Bd.zero hD, I.bd.mono (Bn_ge _ _)⟩, .zero, h⟩
    cases hB : b.isB with
    | true =>
      cases b with
      | row => cases hB
      | col => cases hB
      | box nb s hi =>
        have ok := I.ok
        rw [Bx.ok] at ok
        apply tr_ifT
        · apply JT.to
          · k_extra "t"
          · rfl
        apply tr_retB
        refine J.imp (P := isL ([(⟨nb, 0, 0, W, (hi : Rat)⟩ : Rw)].map (isRw u.K))) ?_ ?_
        · apply j_lst (Ps := [isRw u.K ⟨nb, 0, 0, W, (hi : Rat)⟩])
          · apply ja_cons
            · apply J.imp
              · apply j_tup g (Ps := [isS nb, isPt u.K 0, isPt u.K 0, isPt u.K W, isPt u.K (hi : Rat)])
                · apply ja_cons
                  · exact J.to (jm_name g bm (b := .box nb s hi) rfl (by k_extra "j") rfl) rfl
                  · k_extra "ja"
                  · exact rfl
                · exact Nat.le_of_ble_eq_true rfl
              · exact fun S v h => tt_T S v h
            · k_extra "ja"
            · exact rfl
          · exact Nat.le_of_ble_eq_true rfl
        · exact fun S v h => ⟨(⟨nb, 0, 0, W, (hi : Rat)⟩, []), ⟨.mk rfl .nil (fun _ h => nomatch h) .nil, rfl, rfl, rfl, fun q hq => by
            rw [List.mem_singleton.mp hq]
            exact headB nb _ ⟨hi, rfl, ok.2.2.1, by have := ok.2.2.2; omega⟩⟩, h⟩
    | false =>
      have sp := Bx.ok_space I.ok
      obtain ⟨k1, k2⟩ := Bx.ok_kids I.ok
      apply tr_skip
      · apply JT.to
        · k_extra "t"
        · rw [hB]; rfl
      k_extra "letN"
      k_extra "let"
      k_extra "let"
      have mdW : Md W := sW.sm.md
      refine tr_forX g (B := fun ls : List (List Nat) => LinesOk b.kids.length ls ∧ (b.isR = false → ∀ l ∈ ls, l.length = 1)) (Q := fun ls => isL (ls.map isLine)) (Qs := fun ls => ls.map isLine) ?_ (fun _ => lst_L)
        (fun ls i (a : List Rw × List Rw × Rat × Rat) => [.val (isBx c u.K b), .val (isPt u.K W), .own true (ownL (a.2.1.map (isRw u.K))), .val (isPt u.K a.2.2.1), .val (isPt u.K a.2.2.2), .any, .any, .any])
        (fun ls i a => Laids ((ls.take i).flatten.map (kidAt b)) a.1 a.2.1 ∧ (∀ h ∈ a.1, 0 ≤ h.x ∧ 0 ≤ h.y ∧ h.y + h.h ≤ a.2.2.1) ∧ a.1.Pairwise Sep ∧ IntB (i * (Tn n + 1000)) a.2.2.1 ∧ IntB (i * (Tn n + 1000)) a.2.2.2 ∧ ∀ q ∈ a.2.1, RB D (D * 960 ^ (n + 1)) (Bn (n + 1) M) (Tn (n + 1)) q)
        (fun _ => ([], [], 0, 0)) (fun ls _ => ⟨.nil, (fun _ h => nomatch h), .nil, .zero, .zero, (fun _ h => nomatch h)⟩) (fun ls => by k_extra "sub") ?_ ?_ (fun _ => rfl)
      · refine j_call g c_lines_in (by omega) (Ps := [isBx c u.K b, isPt u.K W]) (fun vs H Q h => ⟨b, W, I.ok, hB, mdW, h⟩) ?_ (nm.gl (by k_extra "at")) rfl rfl
        k_extra "ja"
      · rintro ls ⟨⟨hfl, hne⟩, hone⟩ i P ⟨hs, rows, y, high⟩ G hP ⟨f1, f2, f3, f4, f5, f6⟩
        dsimp only at f1 f2 f3 f4 f5 f6 ⊢
        obtain ⟨l, hl, rfl⟩ := getElem_map hP
        have hm := List.mem_of_getElem? hl
        obtain ⟨l1, l2⟩ := line_in hfl hm
        have hlen : ls.length ≤ 12 := by have := len_flat hne; rw [hfl, List.length_range] at this; omega
        have hi : i < ls.length := get_lt hl
        have iT : i * (Tn n + 1000) ≤ 11 * (Tn n + 1000) := Nat.mul_le_mul_right _ (by omega)
        have y12 : IntB (12 * (Tn n + 1000)) y := f4.mono (by omega)
        have lin : LlIn n D M b l W y := ⟨I.ok, hB, I.dep, I.few, l1, by omega, hne l hm, fun z => hone z l hm, I.bd, I.ll, I.d, I.m, I.n6, y12⟩
        have inR : ∀ j ∈ (ls.take i).flatten, j < b.kids.length := fun j hj => by
          obtain ⟨l', hl', hj'⟩ := List.mem_flatten.mp hj
          exact (line_in hfl (List.mem_of_mem_take hl')).1 j hj'
        have fl12 : (ls.take i).flatten.length ≤ 12 := by
          have e : ls.flatten.length = (ls.take i).flatten.length + (ls.drop i).flatten.length := by
            conv => lhs; rw [← List.take_append_drop i ls]
            rw [List.flatten_append, List.length_append]
          rw [hfl, List.length_range] at e
          omega
        refine ⟨_, by k_extra "jg", ?_⟩
        refine tr_asgX (Bb := fun q : List Rw × List Rw × Rat => LlOk n D M b l y q.1 q.2.1 q.2.2) (Q := fun q => isTt [isL (q.2.1.map (isRw u.K)), isPt u.K q.2.2]) ?_ rfl rfl rfl ?_
        · refine j_call g c_line_laid (Nat.le_refl _) (Ps := [isBx c u.K b, isLine l, isPt u.K W, isPt u.K y]) (fun vs H Q h => ⟨b, l, W, y, D, M, lin, h⟩) ?_ (nm.gl (by k_extra "at")) rfl rfl
          k_extra "ja"
        · rintro ⟨hs', rows', tall⟩ ⟨g1, g2, g3, g4, g5⟩
          dsimp only at g1 g2 g3 g4 g5 ⊢
          have r1 := rows_len f1 inR I.few
          have r2 := rows_len g1 l1 I.few
          have ext : (rows.map (isRw u.K)).length + (rows'.map (isRw u.K)).length ≤ 1000 := by rw [List.length_map, List.length_map]; omega
          have sy : Sn y := f4.sn (Nat.lt_of_le_of_lt (by omega) T100)
          have st : Sn tall := g4.sn (Nat.lt_of_le_of_lt (by omega) T100)
          have hh : IntB (i * (Tn n + 1000) + Tn n) (y + tall) := f4.add g4
          have sh' : Sn (y + tall) := hh.sn (Nat.lt_of_le_of_lt (by omega) T100)
          have ssp : Sn (b.space : Rat) := sn_int (by omega)
          have isp : IntB 1000 (b.space : Rat) := ⟨b.space, rfl, sp.1, by omega⟩
          have sp2 := rat_int_nn sp.1
          have h0 := g4.nn
          refine ⟨_, by k_extra "jg", ?_⟩
          apply tr_extendA g hf S
          · k_extra "at"
          · k_extra "at"
          · exact rfl
          · k_extra "j"
          · exact ext
          k_extra "let"
          k_extra "let"
          refine tr_turnD (hs ++ hs', rows ++ rows', y + tall + (b.space : Rat), y + tall) rfl ⟨?_, ?_, ?_, ?_, ?_, ?_⟩ ?_
          · rw [take_flat hl, List.map_append]
            exact f1.append g1
          · intro h hh
            dsimp only at hh ⊢
            rcases List.mem_append.mp hh with z | z
            · obtain ⟨a1, a2, a3⟩ := f2 h z
              exact ⟨a1, a2, by grind⟩
            · obtain ⟨a1, a2, a3⟩ := g2 h z
              have := f4.nn
              exact ⟨a1, by grind, by grind⟩
          · refine List.pairwise_append.mpr ⟨f3, g3, fun a ha q hq => .inr ?_⟩
            obtain ⟨a1, a2, a3⟩ := f2 a ha
            obtain ⟨b1, b2, b3⟩ := g2 q hq
            grind
          · exact (hh.add isp).mono (by rw [Nat.add_mul]; omega)
          · exact hh.mono (by rw [Nat.add_mul]; omega)
          · intro q hq
            rcases List.mem_append.mp hq with z | z
            · exact f6 q z
            · exact g5 q z
          · rw [List.map_append]
            k_extra "sub"
      · rintro ls ⟨⟨hfl, hne⟩, hone⟩ ⟨hs, rows, y, high⟩ ⟨f1, f2, f3, f4, f5, f6⟩
        dsimp only at f1 f2 f3 f4 f5 f6 ⊢
        rw [List.length_map] at f1 f5
        rw [List.take_length, hfl, kids_range] at f1
        have hlen : ls.length ≤ 12 := by have := len_flat hne; rw [hfl, List.length_range] at this; omega
        have iT : ls.length * (Tn n + 1000) ≤ 12 * (Tn n + 1000) := Nat.mul_le_mul_right _ hlen
        have rl : rows.length ≤ 900 := by
          have e := congrArg List.length f1.names
          rw [List.length_map] at e
          have e2 := I.few
          rw [Bx.names_eq, List.length_cons] at e2
          omega
        have hc : [isRw u.K ⟨b.name, 0, 0, W, high⟩].length + (rows.map (isRw u.K)).length ≤ 1000 := by rw [List.length_map]; simp; omega
        refine tr_frz 2 rfl own_L ?_
        apply tr_retP
        apply J.imp
        · apply j_cat (Ps := [isRw u.K ⟨b.name, 0, 0, W, high⟩]) (Qs := rows.map (isRw u.K))
          · apply j_lst
            · apply ja_cons
              · apply J.imp
                · apply j_tup g (Ps := [isS b.name, isPt u.K 0, isPt u.K 0, isPt u.K W, isPt u.K high])
                  · k_extra "ja"
                  · exact Nat.le_of_ble_eq_true rfl
                · exact fun S v h => tt_T S v h
              · k_extra "ja"
              · exact rfl
            · exact Nat.le_of_ble_eq_true rfl
          · k_extra "j"
          · exact hc
        · exact fun S v h => ⟨(⟨b.name, 0, 0, W, high⟩, rows), ⟨.mk rfl f1 (fun q hq => ⟨(f2 q hq).1, (f2 q hq).2.1⟩) f3, rfl, rfl, rfl, fun q hq => by
            rcases List.mem_cons.mp hq with rfl | hq
            · exact headB _ _ (f5.mono (by omega))
            · exact f6 q hq⟩, h⟩
theorem c_laid {u : Uni} {c : Cl} (c_need_width : Callable u "need_width" 3 (sp_need_width u) []) (c_placed : Callable u "placed" 24 (sp_placed u c 6) []) (Df : Defd u "laid" "laid" (topS 79) []) : Callable u "laid" 25 (sp_placed u c 6) [] := by
  refine fn_pure (k := 24) (ps := ["box", "width"]) Df S_laid.scope (fun f fd F => ⟨[], F.bindsN (fun _ _ _ _ _ _ us hl => match us, hl with | [_, _], _ => rfl), .nil⟩) ?_ (fun _ _ _ _ h => h)
  rintro vs H Q ⟨b, W, D, M, I, h⟩
  refine ⟨_, _, rfl, h, fun X Z hM g hf => ?_⟩
  have S := S_laid
  have nm := S.nm
  have D3 : D < 2 ^ 300 := Nat.lt_of_le_of_lt (Nat.le_mul_of_pos_right _ (Nat.one_le_pow _ _ (by decide))) I.d
  have M26 : M < 2 ^ 260 := Nat.lt_of_le_of_lt (Bn_ge _ _) I.m
  have sW : Sn W := I.bd.sn (Nat.lt_of_lt_of_le D3 (nat_pow_le (by decide))) (Nat.lt_of_lt_of_le M26 (nat_pow_le (by decide)))
  have mdW : Md W := sW.sm.md
  have nn := I.nn
  apply tr_exprA
  · k_extra "j"
  · exact rfl
  apply tr_retP
  refine j_call g c_placed (by decide) (Ps := [isBx c u.K b, isPt u.K W]) (fun vs H Q h => ⟨b, W, D, M, I, h⟩) ?_ (nm.gl (by k_extra "at")) rfl rfl
  k_extra "ja"

end Wd

end

section
set_option maxRecDepth 100000
set_option maxHeartbeats 4000000
namespace Wd
open PySem PySem.Spec L2
/-! ### the law's own reckoning -/
theorem S_law_gcd : FnS ["_law_one", "_law_other"] ["_law_one", "_law_other"] ["_law_one", "_law_other"] [] (defScope (topS 99)) := ⟨by decide +kernel⟩
def sp_law_gcd (u : Uni) : Sp := fun vs H Q _ => ∃ (a b : Nat), Pf [isI (a : Int), isI (b : Int)] (isI ((Nat.gcd a b : Nat) : Int)) vs H Q
theorem jc_law_gcd {u : Uni} {N V G : List Str} {sc : Scope} {k l j : Nat} {X : Cx} {Z : Zn} {Γ : List Ty} {e0 e1 : Expr} {pos p : Pos} {a b : Nat} (g : Good u N sc k X) (nm : Nm sc V G) (F : Callable u "_law_gcd" l (sp_law_gcd u) []) (hl : Nat.ble l k = true) (hG : At G j "_law_gcd") (ha : JA X Z Γ [e0, e1] [isI (a : Int), isI (b : Int)])  (hs : starEach [e0, e1] X.env = (false, eval e0 X.env) :: starEach [e1] X.env) (hp : (backTo pos (starEach [e1] X.env)).any (·.1) = false) : J X Z Γ (.Call (.Name "_law_gcd" p) [e0, e1] [] pos) (isI ((Nat.gcd a b : Nat) : Int)) :=
  j_call g F (Nat.le_of_ble_eq_true hl) (fun _ _ _ h => ⟨a, b, h⟩) ha (nm.gl hG) hs hp
example : True := by
  k_with "call" => ((with_reducible apply jc_law_gcd g nm c_law_gcd); (· exact rfl); (· k_extra "at"); (· k_extra "ja"); (· exact rfl); (· exact rfl))
  trivial
theorem c_law_gcd {u : Uni} (Df : Defd u "_law_gcd" "_law_gcd" (topS 99) []) : Callable u "_law_gcd" 1 (sp_law_gcd u) [] := by
  refine fn_pure (k := 0) (ps := ["_law_one", "_law_other"]) Df S_law_gcd.scope (fun f fd F => ⟨[], F.bindsN (fun _ _ _ _ _ _ us hl => match us, hl with | [_, _], _ => rfl), .nil⟩) ?_ (fun _ _ _ _ h => h)
  rintro vs H Q ⟨a, b, h⟩
  refine ⟨_, _, rfl, h, fun X Z hM g hf => ?_⟩
  have S := S_law_gcd
  have nm := S.nm
  refine tr_whileD g (Γ := _) (fun q : Nat × Nat => [.val (isI (q.1 : Int)), .val (isI (q.2 : Int))]) (fun q => Nat.gcd q.1 q.2 = Nat.gcd a b) (fun q => q.2) (a, b) rfl rfl ?_
  rintro ⟨a', b'⟩ hq
  refine ⟨decide ((0 : Int) < b'), by k_extra "t", fun e => ?_, fun e => ?_⟩
  · have hb : 0 < b' := by have := of_decide_eq_true e; omega
    have hb' : (0 : Int) < (b' : Int) := by omega
    k_extra "pair"
    refine tr_turnD (b', a' % b') rfl ⟨?_, Nat.mod_lt _ hb⟩ (Sub.refl _)
    show Nat.gcd b' (a' % b') = _
    rw [← hq, Nat.gcd_comm a' b', Nat.gcd_rec b' a', Nat.gcd_comm]
  · have hb : b' = 0 := by have := of_decide_eq_false e; omega
    subst hb
    k_extra "ret"
    rw [← hq, Nat.gcd_zero_right]
theorem S_law_part : FnS ["_law_top", "_law_bottom", "_law_dividing"] ["_law_top", "_law_bottom"] ["_law_top", "_law_bottom", "_law_dividing"] ["_law_gcd", "abs"] (defScope (topS 100)) := ⟨by decide +kernel⟩
def sp_law_part (u : Uni) : Sp := fun vs H Q _ => ∃ (n : Int) (d : Nat), (0 < d) ∧ (d < 2 ^ 8000) ∧ Pf [isI n, isI (d : Int)] (isPtt (mkRat n d)) vs H Q
theorem c_law_part {u : Uni} (bt : Bts u) (c_law_gcd : Callable u "_law_gcd" 1 (sp_law_gcd u) []) (Df : Defd u "_law_part" "_law_part" (topS 100) []) : Callable u "_law_part" 2 (sp_law_part u) [] := by
  refine fn_pure (k := 1) (ps := ["_law_top", "_law_bottom"]) Df S_law_part.scope (fun f fd F => ⟨[], F.bindsN (fun _ _ _ _ _ _ us hl => match us, hl with | [_, _], _ => rfl), .nil⟩) ?_ (fun _ _ _ _ h => h)
  rintro vs H Q ⟨n, d, h1, h2, h⟩
  refine ⟨_, _, rfl, h, fun X Z hM g hf => ?_⟩
  have S := S_law_part
  have nm := S.nm
  have hg : 0 < Nat.gcd n.natAbs d := Nat.gcd_pos_of_pos_right _ h1
  have hc : CDivW n (Nat.gcd n.natAbs d : Nat) := wide_div (by omega) (b := 8000) (by rw [Int.natAbs_natCast]; exact Nat.lt_of_le_of_lt (Nat.gcd_le_right _ h1) h2) (by decide) (by decide)
  have hc2 : CDivW (d : Int) (Nat.gcd n.natAbs d : Nat) := wide_div (by omega) (b := 8000) (by rw [Int.natAbs_natCast]; exact Nat.lt_of_le_of_lt (Nat.gcd_le_right _ h1) h2) (by decide) (by decide)
  k_extra "let"
  k_extra "ret"
  exact ptt_gcd h1
section
variable {u : Uni} {N V G : List Str} {sc : Scope} {k l j : Nat} {X : Cx} {Z : Zn} {Γ : List Ty} {e0 e1 : Expr} {pos p : Pos}
theorem jc_law_part {n : Int} {d : Int} (g : Good u N sc k X) (nm : Nm sc V G) (F : Callable u "_law_part" l (sp_law_part u) []) (hl : Nat.ble l k = true) (hG : At G j "_law_part") (ha : JA X Z Γ [e0, e1] [isI n, isI d]) (h1 : 0 < d) (h2 : d.natAbs < 2 ^ 8000)
    (hs : starEach [e0, e1] X.env = (false, eval e0 X.env) :: starEach [e1] X.env) (hp : (backTo pos (starEach [e1] X.env)).any (·.1) = false) : J X Z Γ (.Call (.Name "_law_part" p) [e0, e1] [] pos) (isPt u.K (mkRat n d.toNat)) :=
  J.imp (j_call g F (Nat.le_of_ble_eq_true hl) (fun _ _ _ h => ⟨n, d.toNat, by omega, by rw [← Int.natAbs_of_nonneg (Int.le_of_lt h1), Int.toNat_natCast]; exact h2, by rw [Int.toNat_of_nonneg (Int.le_of_lt h1)]; exact h⟩) ha (nm.gl hG) hs hp) ptt_Pt
end
example : True := by
  k_with "call" => ((with_reducible apply jc_law_part g nm c_law_part); (· exact rfl); (· k_extra "at"); (· k_extra "ja"); (· k_extra "side"); (· k_extra "side"); (· exact rfl); (· exact rfl))
  trivial
theorem S_law_sum : FnS ["_law_one", "_law_other"] ["_law_one", "_law_other"] ["_law_one", "_law_other"] ["_law_part"] (defScope (topS 101)) := ⟨by decide +kernel⟩
def sp_law_sum (u : Uni) : Sp := fun vs H Q _ => ∃ (q r : Rat), (Md q) ∧ (Md r) ∧ Pf [isPt u.K q, isPt u.K r] (isPt u.K (q + r)) vs H Q
theorem jc_law_sum {u : Uni} {N V G : List Str} {sc : Scope} {k l j : Nat} {X : Cx} {Z : Zn} {Γ : List Ty} {e0 e1 : Expr} {pos p : Pos} {q r : Rat} (g : Good u N sc k X) (nm : Nm sc V G) (F : Callable u "_law_sum" l (sp_law_sum u) []) (hl : Nat.ble l k = true) (hG : At G j "_law_sum") (ha : JA X Z Γ [e0, e1] [isPt u.K q, isPt u.K r]) (h1 : Md q) (h2 : Md r) (hs : starEach [e0, e1] X.env = (false, eval e0 X.env) :: starEach [e1] X.env) (hp : (backTo pos (starEach [e1] X.env)).any (·.1) = false) : J X Z Γ (.Call (.Name "_law_sum" p) [e0, e1] [] pos) (isPt u.K (q + r)) :=
  j_call g F (Nat.le_of_ble_eq_true hl) (fun _ _ _ h => ⟨q, r, h1, h2, h⟩) ha (nm.gl hG) hs hp
example : True := by
  k_with "call" => ((with_reducible apply jc_law_sum g nm c_law_sum); (· exact rfl); (· k_extra "at"); (· k_extra "ja"); (· k_extra "side"); (· k_extra "side"); (· exact rfl); (· exact rfl))
  trivial
theorem c_law_sum {u : Uni} (c_law_part : Callable u "_law_part" 2 (sp_law_part u) []) (Df : Defd u "_law_sum" "_law_sum" (topS 101) []) : Callable u "_law_sum" 3 (sp_law_sum u) [] := by
  refine fn_pure (k := 2) (ps := ["_law_one", "_law_other"]) Df S_law_sum.scope (fun f fd F => ⟨[], F.bindsN (fun _ _ _ _ _ _ us hl => match us, hl with | [_, _], _ => rfl), .nil⟩) ?_ (fun _ _ _ _ h => h)
  rintro vs H Q ⟨q, r, h1, h2, h⟩
  refine ⟨_, _, rfl, h, fun X Z hM g hf => ?_⟩
  have S := S_law_sum
  have nm := S.nm
  have h3 := dd_pos q r
  have h4 := dd_lt h1 h2
  k_extra "ret"
  rw [mk_add]
theorem S_law_less : FnS ["_law_one", "_law_other"] ["_law_one", "_law_other"] ["_law_one", "_law_other"] [] (defScope (topS 102)) := ⟨by decide +kernel⟩
def sp_law_less (u : Uni) : Sp := fun vs H Q _ => ∃ (q r : Rat), (Md q) ∧ (Md r) ∧ Pf [isPt u.K q, isPt u.K r] (isB (decide (q < r))) vs H Q
theorem jc_law_less {u : Uni} {N V G : List Str} {sc : Scope} {k l j : Nat} {X : Cx} {Z : Zn} {Γ : List Ty} {e0 e1 : Expr} {pos p : Pos} {q r : Rat} (g : Good u N sc k X) (nm : Nm sc V G) (F : Callable u "_law_less" l (sp_law_less u) []) (hl : Nat.ble l k = true) (hG : At G j "_law_less") (ha : JA X Z Γ [e0, e1] [isPt u.K q, isPt u.K r]) (h1 : Md q) (h2 : Md r) (hs : starEach [e0, e1] X.env = (false, eval e0 X.env) :: starEach [e1] X.env) (hp : (backTo pos (starEach [e1] X.env)).any (·.1) = false) : J X Z Γ (.Call (.Name "_law_less" p) [e0, e1] [] pos) (isB (decide (q < r))) :=
  j_call g F (Nat.le_of_ble_eq_true hl) (fun _ _ _ h => ⟨q, r, h1, h2, h⟩) ha (nm.gl hG) hs hp
example : True := by
  k_with "call" => ((with_reducible apply jc_law_less g nm c_law_less); (· exact rfl); (· k_extra "at"); (· k_extra "ja"); (· k_extra "side"); (· k_extra "side"); (· exact rfl); (· exact rfl))
  trivial
theorem c_law_less {u : Uni} (Df : Defd u "_law_less" "_law_less" (topS 102) []) : Callable u "_law_less" 1 (sp_law_less u) [] := by
  refine fn_pure (k := 0) (ps := ["_law_one", "_law_other"]) Df S_law_less.scope (fun f fd F => ⟨[], F.bindsN (fun _ _ _ _ _ _ us hl => match us, hl with | [_, _], _ => rfl), .nil⟩) ?_ (fun _ _ _ _ h => h)
  rintro vs H Q ⟨q, r, h1, h2, h⟩
  refine ⟨_, _, rfl, h, fun X Z hM g hf => ?_⟩
  have S := S_law_less
  have nm := S.nm
  k_extra "ret"
  exact congrArg isB (decide_eq_decide.mpr (Rat.lt_iff _ _).symm)
theorem S_law_in : FnS ["_law_low", "_law_length", "_law_point"] ["_law_low", "_law_length", "_law_point"] ["_law_low", "_law_length", "_law_point"] ["_law_less", "_law_sum"] (defScope (topS 105)) := ⟨by decide +kernel⟩
def sp_law_in (u : Uni) : Sp := fun vs H Q _ => ∃ (a b c : Rat), (Sm a) ∧ (Sm b) ∧ (Sm c) ∧ Pf [isPt u.K a, isPt u.K b, isPt u.K c] (isB (within a b c)) vs H Q
theorem jc_law_in {u : Uni} {N V G : List Str} {sc : Scope} {k l j : Nat} {X : Cx} {Z : Zn} {Γ : List Ty} {e0 e1 e2 : Expr} {pos p : Pos} {a b c : Rat} (g : Good u N sc k X) (nm : Nm sc V G) (F : Callable u "_law_in" l (sp_law_in u) []) (hl : Nat.ble l k = true) (hG : At G j "_law_in") (ha : JA X Z Γ [e0, e1, e2] [isPt u.K a, isPt u.K b, isPt u.K c]) (h1 : Sm a) (h2 : Sm b) (h3 : Sm c) (hs : starEach [e0, e1, e2] X.env = (false, eval e0 X.env) :: starEach [e1, e2] X.env) (hp : (backTo pos (starEach [e1, e2] X.env)).any (·.1) = false) : J X Z Γ (.Call (.Name "_law_in" p) [e0, e1, e2] [] pos) (isB (within a b c)) :=
  j_call g F (Nat.le_of_ble_eq_true hl) (fun _ _ _ h => ⟨a, b, c, h1, h2, h3, h⟩) ha (nm.gl hG) hs hp
example : True := by
  k_with "call" => ((with_reducible apply jc_law_in g nm c_law_in); (· exact rfl); (· k_extra "at"); (· k_extra "ja"); (· k_extra "side"); (· k_extra "side"); (· k_extra "side"); (· exact rfl); (· exact rfl))
  trivial
theorem c_law_in {u : Uni} (c_law_less : Callable u "_law_less" 1 (sp_law_less u) []) (c_law_sum : Callable u "_law_sum" 3 (sp_law_sum u) []) (Df : Defd u "_law_in" "_law_in" (topS 105) []) : Callable u "_law_in" 4 (sp_law_in u) [] := by
  refine fn_pure (k := 3) (ps := ["_law_low", "_law_length", "_law_point"]) Df S_law_in.scope (fun f fd F => ⟨[], F.bindsN (fun _ _ _ _ _ _ us hl => match us, hl with | [_, _, _], _ => rfl), .nil⟩) ?_ (fun _ _ _ _ h => h)
  rintro vs H Q ⟨a, b, c, h1, h2, h3, h⟩
  refine ⟨_, _, rfl, h, fun X Z hM g hf => ?_⟩
  have S := S_law_in
  have nm := S.nm
  k_extra "ret"
  rfl

end Wd

end

section
set_option maxRecDepth 100000
set_option maxHeartbeats 4000000
namespace Wd
open PySem PySem.Spec L2
theorem div_lit {n m : Int} (h : 0 < m) (h2 : m ≤ 1000000000000) : CDivW n m := wide_div (by omega) (b := 8000) (Nat.lt_of_lt_of_le (show m.natAbs < 2 ^ 40 by omega) (nat_pow_le (by decide))) (by decide) (by decide)
theorem at_ints {ns : List Int} {j : Int} (h : 0 ≤ j) (h2 : j < ns.length) : atI (ns.map isI) j = some (isI (ns.getD j.toNat 0)) := by
  obtain ⟨m, rfl⟩ := Int.eq_ofNat_of_zero_le h
  refine atI_nat ?_
  rw [List.getElem?_map, List.getElem?_eq_getElem (by omega), Int.toNat_natCast, List.getD_eq_getElem?_getD, List.getElem?_eq_getElem (by omega)]
  rfl
example : True := by
  k_with "side" => ((with_reducible apply div_lit); (· omega); (· omega))
  trivial
def lawSz (n s : Int) : Int := [n % 10, n % 100, n % 1001, [0, 1000].getD (n / 8 % 2).toNat 0].getD (s % 4).toNat 0
theorem pick4 (a b c d : Int) {m : Int} (φ : Int → Prop) (ha : φ a) (hb : φ b) (hc : φ c) (hd : φ d) (h : 0 ≤ m) (h2 : m < 4) : φ ([a, b, c, d].getD m.toNat 0) := by
  have : m = 0 ∨ m = 1 ∨ m = 2 ∨ m = 3 := by omega
  rcases this with h | h | h | h <;> subst h <;> assumption
theorem pick2 (a b : Int) {m : Int} (φ : Int → Prop) (ha : φ a) (hb : φ b) (h : 0 ≤ m) (h2 : m < 2) : φ ([a, b].getD m.toNat 0) := by
  have : m = 0 ∨ m = 1 := by omega
  rcases this with h | h <;> subst h <;> assumption
theorem lawSz_b (n s : Int) : 0 ≤ lawSz n s ∧ lawSz n s ≤ 1000 :=
  pick4 _ _ _ _ (fun v => 0 ≤ v ∧ v ≤ 1000) (by omega) (by omega) (by omega) (pick2 _ _ (fun v => 0 ≤ v ∧ v ≤ 1000) (by omega) (by omega) (by omega) (by omega)) (by omega) (by omega)
theorem S_law_size : FnS ["_law_number", "_law_scale"] ["_law_number", "_law_scale"] ["_law_number", "_law_scale"] [] (defScope (topS 95)) := ⟨by decide +kernel⟩
def sp_law_size (u : Uni) : Sp := fun vs H Q _ => ∃ (n s : Int), Pf [isI n, isI s] (isI (lawSz n s)) vs H Q
theorem jc_law_size {u : Uni} {N V G : List Str} {sc : Scope} {k l j : Nat} {X : Cx} {Z : Zn} {Γ : List Ty} {e0 e1 : Expr} {pos p : Pos} {n s : Int} (g : Good u N sc k X) (nm : Nm sc V G) (F : Callable u "_law_size" l (sp_law_size u) []) (hl : Nat.ble l k = true) (hG : At G j "_law_size") (ha : JA X Z Γ [e0, e1] [isI n, isI s])  (hs : starEach [e0, e1] X.env = (false, eval e0 X.env) :: starEach [e1] X.env) (hp : (backTo pos (starEach [e1] X.env)).any (·.1) = false) : J X Z Γ (.Call (.Name "_law_size" p) [e0, e1] [] pos) (isI (lawSz n s)) :=
  j_call g F (Nat.le_of_ble_eq_true hl) (fun _ _ _ h => ⟨n, s, h⟩) ha (nm.gl hG) hs hp
example : True := by
  k_with "call" => ((with_reducible apply jc_law_size g nm c_law_size); (· exact rfl); (· k_extra "at"); (· k_extra "ja"); (· exact rfl); (· exact rfl))
  trivial
theorem c_law_size {u : Uni} (Df : Defd u "_law_size" "_law_size" (topS 95) []) : Callable u "_law_size" 1 (sp_law_size u) [] := by
  refine fn_pure (k := 0) (ps := ["_law_number", "_law_scale"]) Df S_law_size.scope (fun f fd F => ⟨[], F.bindsN (fun _ _ _ _ _ _ us hl => match us, hl with | [_, _], _ => rfl), .nil⟩) ?_ (fun _ _ _ _ h => h)
  rintro vs H Q ⟨n, s, h⟩
  refine ⟨_, _, rfl, h, fun X Z hM g hf => ?_⟩
  have S := S_law_size
  have nm := S.nm
  have x1 : atI [isI 0, isI 1000] (n / 8 % 2) = some (isI ([0, 1000].getD (n / 8 % 2).toNat 0)) := at_ints (ns := [0, 1000]) (by omega) (by simp; omega)
  have x2 : atI [isI (n % 10), isI (n % 100), isI (n % 1001), isI ([0, 1000].getD (n / 8 % 2).toNat 0)] (s % 4) = some (isI (lawSz n s)) := at_ints (ns := [n % 10, n % 100, n % 1001, [0, 1000].getD (n / 8 % 2).toNat 0]) (by omega) (by simp; omega)
  k_extra "ret"
  rfl

end Wd

end

section
set_option maxRecDepth 100000
set_option maxHeartbeats 4000000
namespace Wd
open PySem PySem.Spec L2
def lawWt (a j : Int) : Int := [0, 1, 1, 2, 3, 20, a % 21].getD j.toNat 0
theorem pick7 (a b c d e f g : Int) {m : Int} (φ : Int → Prop) (ha : φ a) (hb : φ b) (hc : φ c) (hd : φ d) (he : φ e) (hf : φ f) (hg : φ g) (h : 0 ≤ m) (h2 : m < 7) : φ ([a, b, c, d, e, f, g].getD m.toNat 0) := by
  have : m = 0 ∨ m = 1 ∨ m = 2 ∨ m = 3 ∨ m = 4 ∨ m = 5 ∨ m = 6 := by omega
  rcases this with h | h | h | h | h | h | h <;> subst h <;> assumption
theorem lawWt_b (a : Int) {j : Int} (h : 0 ≤ j) (h2 : j < 7) : 0 ≤ lawWt a j ∧ lawWt a j ≤ 20 := pick7 _ _ _ _ _ _ _ (fun v => 0 ≤ v ∧ v ≤ 20) (by omega) (by omega) (by omega) (by omega) (by omega) (by omega) (by omega) h h2
def lawWish (a b : Int) : Int := min 1000 (lawSz a (b / 4) + lawSz (a / 1001) (b / 16) * (if decide (0 < b / 64 % 3) then 1 else 0))
def lawSizes (a b : Int) : Sz :=
  ⟨lawWish a b, lawSz a (b / 4), if b / 256 % 3 = 0 then none else some (min 1000 (lawWish a b + lawSz (b / 7) (a / 3) * (a / 5 % 2))), lawWt a (a / 11 % 7), lawWt a (b / 13 % 7)⟩
theorem lawSizes_ok (a b : Int) : SzOk (lawSizes a b) := by
  have h1 := lawSz_b a (b / 4)
  have h2 := lawSz_b (a / 1001) (b / 16)
  have h3 := lawSz_b (b / 7) (a / 3)
  have w : lawSz a (b / 4) ≤ lawWish a b ∧ lawWish a b ≤ 1000 := by
    unfold lawWish
    split <;> omega
  have hm : a / 5 % 2 = 0 ∨ a / 5 % 2 = 1 := by omega
  refine ⟨h1.1, w.1, w.2, fun m e => ?_, (lawWt_b a (by omega) (by omega)).1, (lawWt_b a (by omega) (by omega)).2, (lawWt_b a (by omega) (by omega)).1, (lawWt_b a (by omega) (by omega)).2⟩
  unfold lawSizes at e ⊢
  dsimp only at e ⊢
  split at e
  · cases e
  · cases e
    rcases hm with h | h <;> rw [h] <;> omega
theorem S_law_sizes : FnS ["_law_a", "_law_b", "_law_least", "_law_wish", "_law_most", "_law_weights", "_law_grow", "_law_shrink"] ["_law_a", "_law_b"] ["_law_a", "_law_b", "_law_least", "_law_wish", "_law_most", "_law_weights", "_law_grow", "_law_shrink"] ["_law_size", "min", "int"] (defScope (topS 96)) := ⟨by decide +kernel⟩
def sp_law_sizes (u : Uni) : Sp := fun vs H Q _ => ∃ (a b : Int), Pf [isI a, isI b] (isSz u.K (lawSizes a b)) vs H Q
theorem jc_law_sizes {u : Uni} {N V G : List Str} {sc : Scope} {k l j : Nat} {X : Cx} {Z : Zn} {Γ : List Ty} {e0 e1 : Expr} {pos p : Pos} {a b : Int} (g : Good u N sc k X) (nm : Nm sc V G) (F : Callable u "_law_sizes" l (sp_law_sizes u) []) (hl : Nat.ble l k = true) (hG : At G j "_law_sizes") (ha : JA X Z Γ [e0, e1] [isI a, isI b])  (hs : starEach [e0, e1] X.env = (false, eval e0 X.env) :: starEach [e1] X.env) (hp : (backTo pos (starEach [e1] X.env)).any (·.1) = false) : J X Z Γ (.Call (.Name "_law_sizes" p) [e0, e1] [] pos) (isSz u.K (lawSizes a b)) :=
  j_call g F (Nat.le_of_ble_eq_true hl) (fun _ _ _ h => ⟨a, b, h⟩) ha (nm.gl hG) hs hp
example : True := by
  k_with "call" => ((with_reducible apply jc_law_sizes g nm c_law_sizes); (· exact rfl); (· k_extra "at"); (· k_extra "ja"); (· exact rfl); (· exact rfl))
  trivial
theorem c_law_sizes {u : Uni} (bt : Bts u) (c_law_size : Callable u "_law_size" 1 (sp_law_size u) []) (Df : Defd u "_law_sizes" "_law_sizes" (topS 96) []) : Callable u "_law_sizes" 2 (sp_law_sizes u) [] := by
  refine fn_pure (k := 1) (ps := ["_law_a", "_law_b"]) Df S_law_sizes.scope (fun f fd F => ⟨[], F.bindsN (fun _ _ _ _ _ _ us hl => match us, hl with | [_, _], _ => rfl), .nil⟩) ?_ (fun _ _ _ _ h => h)
  rintro vs H Q ⟨a, b, h⟩
  refine ⟨_, _, rfl, h, fun X Z hM g hf => ?_⟩
  have S := S_law_sizes
  have nm := S.nm
  have h1 := lawSz_b a (b / 4)
  have h2 := lawSz_b (a / 1001) (b / 16)
  have h3 := lawSz_b (b / 7) (a / 3)
  have m1 : CMulW (lawSz (a / 1001) (b / 16)) (if decide (0 < b / 64 % 3) then 1 else 0) := mul_small (by omega) (by omega) (by split <;> omega) (by split <;> omega)
  have m2 : CMulW (lawSz (b / 7) (a / 3)) (a / 5 % 2) := mul_small (by omega) (by omega) (by omega) (by omega)
  have x1 : atI [isI 0, isI 1, isI 1, isI 2, isI 3, isI 20, isI (a % 21)] (a / 11 % 7) = some (isI (lawWt a (a / 11 % 7))) := at_ints (ns := [0, 1, 1, 2, 3, 20, a % 21]) (by omega) (by simp; omega)
  have x2 : atI [isI 0, isI 1, isI 1, isI 2, isI 3, isI 20, isI (a % 21)] (b / 13 % 7) = some (isI (lawWt a (b / 13 % 7))) := at_ints (ns := [0, 1, 1, 2, 3, 20, a % 21]) (by omega) (by simp; omega)
  k_extra "let"
  k_extra "let"
  k_extra "let"
  k_extra "let"
  k_extra "pair"
  k_extra "if"
  · intro e
    have e := of_decide_eq_true e
    apply tr_retB
    apply J.imp
    · k_extra "j"
    · intro S v h
      have h := tt_T (K := u.K) S v h
      have e2 : lawSizes a b = ⟨lawWish a b, lawSz a (b / 4), none, lawWt a (a / 11 % 7), lawWt a (b / 13 % 7)⟩ := by unfold lawSizes; rw [if_pos e]
      rw [e2]
      exact h
  · intro e
    have e := of_decide_eq_false e
    refine tr_end ?_
    apply tr_retP
    apply J.imp
    · k_extra "j"
    · intro S v h
      have h := tt_T (K := u.K) S v h
      have e2 : lawSizes a b = ⟨lawWish a b, lawSz a (b / 4), some (min 1000 (lawWish a b + lawSz (b / 7) (a / 3) * (a / 5 % 2))), lawWt a (a / 11 % 7), lawWt a (b / 13 % 7)⟩ := by unfold lawSizes; rw [if_neg e]
      rw [e2]
      exact h

end Wd

end

section
set_option maxRecDepth 100000
set_option maxHeartbeats 4000000
namespace Wd
open PySem PySem.Spec L2
inductive PsLe : List Pr → List Pr → Prop
  | nil : PsLe [] []
  | cons {P Q : Pr} {Ps Qs : List Pr} : (∀ S v, P.p S v → Q.p S v) → PsLe Ps Qs → PsLe (P :: Ps) (Q :: Qs)
theorem PsLe.all {S : Hp} : ∀ {Ps Qs : List Pr} {vs : List V}, PsLe Ps Qs → All S Ps vs → All S Qs vs
  | _, _, _, .nil, .nil => .nil
  | _, _, _, .cons h t, .cons q r => .cons (h _ _ q) (t.all r)
theorem isL_wk {Ps Qs : List Pr} (h : PsLe Ps Qs) (S : Hp) (v : V) (q : (isL Ps).p S v) : (isL Qs).p S v := by
  obtain ⟨a, vs, e, h1, h2⟩ := q
  exact ⟨a, vs, e, h1, h.all h2⟩
theorem at_rep {Q : Pr} {n : Nat} {j : Int} (h : 0 ≤ j) (h2 : j < n) : atI (List.replicate n Q) j = some Q := by
  obtain ⟨m, rfl⟩ := Int.eq_ofNat_of_zero_le h
  refine atI_nat ?_
  rw [List.getElem?_replicate, if_pos (by omega)]
def isFr : Pr := Pr.ex fun t : Int × Int => Pr.and (0 ≤ t.1 ∧ t.1 ≤ 10 ^ 20 ∧ 1 ≤ t.2 ∧ t.2 ≤ 10 ^ 10) (isTt [isI t.1, isI t.2])
theorem fr_of {n d : Int} (h : 0 ≤ n ∧ n ≤ 10 ^ 20 ∧ 1 ≤ d ∧ d ≤ 10 ^ 10) (S : Hp) (v : V) (q : (isTt [isI n, isI d]).p S v) : isFr.p S v := ⟨(n, d), h, q⟩
/-- a width of the law -/
def WOk (q : Rat) : Prop := 0 ≤ q ∧ ∃ d : Nat, 0 < d ∧ d ≤ 10 ^ 10 ∧ Bd (LL * d) (10 ^ 20) q
theorem wok_of {n d : Int} (h : 0 ≤ n ∧ n ≤ 10 ^ 20 ∧ 1 ≤ d ∧ d ≤ 10 ^ 10) : WOk (mkRat n d.toNat) := by
  have hd : 0 < d.toNat := by omega
  refine ⟨num_nn.mp (by rw [Rat.num_mkRat, if_neg (by omega)]; exact Int.ediv_nonneg h.1 (Int.natCast_nonneg _)), d.toNat, hd, by omega, ?_⟩
  have : Bd d.toNat (10 ^ 20) (mkRat n d.toNat) := ⟨hd, n, rfl, Nat.le_trans (show n.natAbs ≤ 10 ^ 20 by omega) (Nat.le_mul_of_pos_right _ hd)⟩
  exact this.dvd ⟨LL, Nat.mul_comm ..⟩ (Nat.mul_pos (by decide) hd)
example : True := by
  k_with "side" => exact Nat.le_of_ble_eq_true rfl
  trivial
theorem S_law_width : FnS ["_law_a", "_law_b", "_law_some", "_law_top", "_law_bottom"] ["_law_a", "_law_b"] ["_law_a", "_law_b", "_law_some", "_law_top", "_law_bottom"] ["_law_part"] (defScope (topS 103)) := ⟨by decide +kernel⟩
def sp_law_width (u : Uni) : Sp := fun vs H Q _ => ∃ (a b : Int), (0 ≤ a) ∧ (0 ≤ b) ∧ (a.natAbs < 2 ^ 200) ∧ (b.natAbs < 2 ^ 200) ∧ Pf [isI a, isI b] (Pr.ex fun q : Rat => Pr.and (WOk q) (isPt u.K q)) vs H Q
theorem c_law_width {u : Uni} (bt : Bts u) (c_law_part : Callable u "_law_part" 2 (sp_law_part u) []) (Df : Defd u "_law_width" "_law_width" (topS 103) []) : Callable u "_law_width" 3 (sp_law_width u) [] := by
  refine fn_pure (k := 2) (ps := ["_law_a", "_law_b"]) Df S_law_width.scope (fun f fd F => ⟨[], F.bindsN (fun _ _ _ _ _ _ us hl => match us, hl with | [_, _], _ => rfl), .nil⟩) ?_ (fun _ _ _ _ h => h)
  rintro vs H Q ⟨a, b, h1, h2, h3, h4, h⟩
  refine ⟨_, _, rfl, h, fun X Z hM g hf => ?_⟩
  have S := S_law_width
  have nm := S.nm
  have mab : CMulW a b := wide_mul h3 h4 (by decide) (by decide) (by decide)
  have p20 : CPow 10 20 := ⟨by decide, by decide, by decide⟩
  have p10 : CPow 10 10 := ⟨by decide, by decide, by decide⟩
  have e20 : (10 : Int) ^ (20 : Int).toNat = 100000000000000000000 := by decide +kernel
  have e10 : (10 : Int) ^ (10 : Int).toNat = 10000000000 := by decide +kernel
  have q20 : (0 : Int) < (10 : Int) ^ (20 : Int).toNat := by rw [e20]; decide
  have q10 : (0 : Int) < (10 : Int) ^ (10 : Int).toNat := by rw [e10]; decide
  k_extra "let"
  k_extra "let"
  refine tr_wk 2 (P' := isL (List.replicate 7 isFr)) rfl (isL_wk ?_) ?_
  · refine .cons (fr_of (by omega)) (.cons (fr_of (by omega)) (.cons (fr_of (by omega)) (.cons (fr_of (by omega)) (.cons (fr_of (by omega)) (.cons (fr_of (by omega)) (.cons (fr_of ?_) .nil))))))
    rw [e20, e10]
    omega
  have ix : atI (List.replicate 7 isFr) (b / 3 % 7) = some isFr := at_rep (by omega) (by omega)
  refine tr_asgX (Bb := fun t : Int × Int => 0 ≤ t.1 ∧ t.1 ≤ 10 ^ 20 ∧ 1 ≤ t.2 ∧ t.2 ≤ 10 ^ 10) (Q := fun t => isTt [isI t.1, isI t.2]) ?_ rfl rfl rfl ?_
  · apply J.to
    · k_extra "j"
    · rfl
  · rintro ⟨n, d⟩ hb
    dsimp only at hb ⊢
    have d0 : 0 < d := by omega
    have d8 : d.natAbs < 2 ^ 8000 := Nat.lt_of_lt_of_le (show d.natAbs < 2 ^ 40 by omega) (nat_pow_le (by decide))
    refine ⟨_, by k_extra "jg", ?_⟩
    apply tr_retP
    apply J.imp
    · k_extra "j"
    · exact fun S v h => ⟨_, wok_of hb, h⟩

end Wd

end

section
set_option maxRecDepth 100000
set_option maxHeartbeats 4000000
namespace Wd
open PySem PySem.Spec L2
def RowB (ns : List Int) : Prop := ∀ n ∈ ns, 0 ≤ n ∧ n < 10 ^ 40
section
variable {X : Cx} {Z : Zn} {Γ : List Ty} {a b : Expr} {P : Pr} {pos : Pos}
theorem flat_rep {α : Type} (n : Nat) (x : α) : (List.replicate n [x]).flatten = List.replicate n x := by
  induction n with
  | zero => rfl
  | succ n ih => rw [List.replicate_succ, List.flatten_cons, ih, List.replicate_succ]; rfl
theorem j_rep1 {n : Nat} (ha : J X Z Γ a (isL [P])) (hb : J X Z Γ b (isI (n : Int))) (hn : n ≤ 1000) : J X Z Γ (.BinOp a .Mult b pos) (isL (List.replicate n P)) := by
  rw [← flat_rep]
  exact J.new (jn_rep ha hb (by simp; omega) hn) ownL_isL
end
theorem S_law_row : FnS ["_law_script", "_law_many", "_law_cell", "_law_found", "_law_more", "_law_k"] ["_law_script", "_law_many"] ["_law_script", "_law_many", "_law_cell", "_law_found", "_law_more", "_law_k"] ["len", "range", "max"] (defScope (topS 94)) := ⟨by decide +kernel⟩
def sp_law_row (u : Uni) : Sp := fun vs H Q _ => ∃ (ss : List Int) (many : Nat), (ss.length ≤ 500) ∧ (many ≤ 400) ∧ Pf [isR u.K (ss.map isI), isI (many : Int)] (Pr.ex fun ns : List Int => Pr.and (ns.length = ss.length + many ∧ RowB ns) (isL (ns.map isI))) vs H Q
theorem c_law_row {u : Uni} (bt : Bts u) (Df : Defd u "_law_row" "_law_row" (topS 94) []) : Callable u "_law_row" 1 (sp_law_row u) [] := by
  refine fn_pure (k := 0) (ps := ["_law_script", "_law_many"]) Df S_law_row.scope (fun f fd F => ⟨[], F.bindsN (fun _ _ _ _ _ _ us hl => match us, hl with | [_, _], _ => rfl), .nil⟩) ?_ (fun _ _ _ _ h => h)
  rintro vs H Q ⟨ss, many, h1, h2, h⟩
  refine ⟨_, _, rfl, h, fun X Z hM g hf => ?_⟩
  have S := S_law_row
  have nm := S.nm
  have p40 : CPow 10 40 := ⟨by decide, by decide, by decide⟩
  have e40 : (10 : Int) ^ (40 : Int).toNat = 10 ^ 40 := rfl
  have q40 : (0 : Int) < (10 : Int) ^ (40 : Int).toNat := by rw [e40]; decide
  have lm : (ss.map isI).length = ss.length := List.length_map ..
  apply tr_if (d := match ss with | [] => false | s :: _ => decide (s % 2 = 0))
  · cases ss with
    | nil => exact jt_bool (jw_andF (JT.to (by k_extra "t") (by rfl)))
    | cons s0 sr =>
      have ix : atI ((s0 :: sr).map isI) 0 = some (isI s0) := by unfold atI ixN; rw [if_pos (by decide), if_pos (by simp)]; rfl
      apply JT.to
      · k_extra "t"
      · rw [decide_eq_true (show (0 : Int) < ((s0 :: sr).length : Int) by rw [List.length_cons]; omega)]
        rfl
  · intro _
    apply tr_retB
    have hc : ((ss.map fun n => n / 2 % 10 ^ 40).map isI).length + (List.replicate many (isI 0)).length ≤ 1000 := by rw [List.length_map, List.length_map, List.length_replicate]; omega
    refine J.imp (P := isL ((ss.map fun n => n / 2 % 10 ^ 40).map isI ++ List.replicate many (isI 0))) ?_ fun S v h => ⟨(ss.map fun n => n / 2 % 10 ^ 40) ++ List.replicate many 0, ⟨by simp, fun n hn => ?_⟩, by rw [List.map_append, List.map_replicate]; exact h⟩
    · apply j_cat
      · rw [List.map_map]
        refine j_comp (jn_map g (xs := ss) (A := isI) (B := isI ∘ fun n => n / 2 % 10 ^ 40) [("_law_cell", 2)] (by k_extra "ji") (by decide +kernel) (by omega) (fun n => [(2, isI n)]) (by simp) ?_ (fun _ => rfl))
        intro n hn G X' g
        have nm := nmOf g ["_law_cell"] [] (by decide +kernel)
        refine ⟨by k_extra "jgo", ?_⟩
        apply J.to
        · k_extra "j"
        · rfl
      · exact j_rep1 (by k_extra "j") (by k_extra "j") (by omega)
      · exact hc
    · rcases List.mem_append.mp hn with z | z
      · obtain ⟨m, _, rfl⟩ := List.mem_map.mp z
        exact ⟨Int.emod_nonneg _ (by decide), Int.emod_lt_of_pos _ (by decide)⟩
      · rw [(List.mem_replicate.mp z).2]; decide
  · intro _
    refine tr_end ?_
    k_extra "letN"
    k_extra "let"
    have hn : ss.length + many ≤ 1000000 := by omega
    refine tr_forD g (Ps := rangeP 0 (ss.length + many)) (ji_range1 g bt.range (nm.gl (by k_extra "at")) (n := ss.length + many) (J.to (by k_extra "j") (congrArg isI (by omega))) hn rfl)
      (fun i (a : List Int × Int) => [.val (isR u.K (ss.map isI)), .val (isI (many : Int)), .any, .own true (ownL (a.1.map isI)), .val (isI a.2), .any])
      (fun i a => a.1.length = i ∧ RowB a.1 ∧ 0 ≤ a.2 ∧ a.2 < 2147483647) ([], 7) ⟨rfl, (fun _ h => nomatch h), by decide, by decide⟩ (by k_extra "sub") ?_ ?_ (fun _ => rfl)
    · rintro i P ⟨ns, more⟩ G hP ⟨f1, f2, f3, f4⟩
      dsimp only at f1 f2 f3 f4 ⊢
      obtain ⟨hi, rfl⟩ := rangeP_get hP
      rw [show (0 : Int) + (i : Int) = i from Int.zero_add _]
      have m1 : CMulW more 48271 := wide_mul (a := 40) (b := 40) (by omega) (by decide) (by decide) (by decide) (by decide)
      have lns : (ns.map isI).length ≤ 1000 := by rw [List.length_map]; omega
      refine ⟨_, by k_extra "jg", ?_⟩
      k_extra "let"
      k_extra "if"
      · intro e
        have e : (0 : Int) < (ss.length : Int) := of_decide_eq_true e
        have ix : atI (ss.map isI) ((i : Int) % (ss.length : Int)) = some (isI (ss.getD ((i : Int) % (ss.length : Int)).toNat 0)) := at_ints (Int.emod_nonneg _ (by omega)) (Int.emod_lt_of_pos _ e)
        k_extra "let"
        refine tr_end ?_
        k_extra "let"
        have n1 := Int.emod_nonneg (more * 48271 + (ss.getD ((i : Int) % (ss.length : Int)).toNat 0) + (i : Int)) (show (2147483647 : Int) ≠ 0 by decide)
        have n2 := Int.emod_lt_of_pos (more * 48271 + (ss.getD ((i : Int) % (ss.length : Int)).toNat 0) + (i : Int)) (show (0 : Int) < 2147483647 by decide)
        generalize (more * 48271 + (ss.getD ((i : Int) % (ss.length : Int)).toNat 0) + (i : Int)) % 2147483647 = mm at n1 n2
        have m2 : CMulW mm mm := wide_mul (a := 40) (b := 40) (by omega) (by omega) (by decide) (by decide) (by decide)
        have m3 : CMulW 16807 mm := wide_mul (a := 40) (b := 40) (by decide) (by omega) (by decide) (by decide) (by decide)
        k_extra "append"
        refine tr_turnD (ns ++ [(mm * mm + 16807 * mm) % 2147483629], mm) rfl ⟨?_, ?_, n1, n2⟩ ?_
        · rw [List.length_append, f1]; rfl
        · intro n hn
          rcases List.mem_append.mp hn with z | z
          · exact f2 n z
          · rw [List.mem_singleton.mp z]
            have z1 := Int.emod_nonneg (mm * mm + 16807 * mm) (show (2147483629 : Int) ≠ 0 by decide)
            have z2 := Int.emod_lt_of_pos (mm * mm + 16807 * mm) (show (0 : Int) < 2147483629 by decide)
            exact ⟨z1, Int.lt_trans z2 (by decide)⟩
        · rw [List.map_append]
          k_extra "sub"
      · intro e
        refine tr_end ?_
        k_extra "let"
        have n1 := Int.emod_nonneg (more * 48271 + 0 + (i : Int)) (show (2147483647 : Int) ≠ 0 by decide)
        have n2 := Int.emod_lt_of_pos (more * 48271 + 0 + (i : Int)) (show (0 : Int) < 2147483647 by decide)
        generalize (more * 48271 + 0 + (i : Int)) % 2147483647 = mm at n1 n2
        have m2 : CMulW mm mm := wide_mul (a := 40) (b := 40) (by omega) (by omega) (by decide) (by decide) (by decide)
        have m3 : CMulW 16807 mm := wide_mul (a := 40) (b := 40) (by decide) (by omega) (by decide) (by decide) (by decide)
        k_extra "append"
        refine tr_turnD (ns ++ [(mm * mm + 16807 * mm) % 2147483629], mm) rfl ⟨?_, ?_, n1, n2⟩ ?_
        · rw [List.length_append, f1]; rfl
        · intro n hn
          rcases List.mem_append.mp hn with z | z
          · exact f2 n z
          · rw [List.mem_singleton.mp z]
            have z1 := Int.emod_nonneg (mm * mm + 16807 * mm) (show (2147483629 : Int) ≠ 0 by decide)
            have z2 := Int.emod_lt_of_pos (mm * mm + 16807 * mm) (show (0 : Int) < 2147483629 by decide)
            exact ⟨z1, Int.lt_trans z2 (by decide)⟩
        · rw [List.map_append]
          k_extra "sub"
    · rintro ⟨ns, more⟩ ⟨f1, f2, f3, f4⟩
      dsimp only at f1 f2 f3 f4 ⊢
      rw [rangeP_len] at f1
      refine tr_frz 3 rfl own_L ?_
      apply tr_retP
      apply J.imp
      · k_extra "j"
      · exact fun S v h => ⟨ns, ⟨f1, f2⟩, h⟩

end Wd

end

section
set_option maxRecDepth 100000
set_option maxHeartbeats 4000000
namespace Wd
open PySem PySem.Spec L2
theorem S_law_kept : FnS [] [] [] [] (defScope (topS 91)) := ⟨by decide +kernel⟩
def sp_law_kept (u : Uni) : Sp := fun vs H Q _ => Pf [] (isL (keptL.map isS)) vs H Q
theorem c_law_kept {u : Uni} (Df : Defd u "_law_kept" "_law_kept" (topS 91) []) : Callable u "_law_kept" 1 (sp_law_kept u) [] := by
  refine fn_pure (k := 0) (ps := []) Df S_law_kept.scope (fun f fd F => ⟨[], F.bindsN (fun _ _ _ _ _ _ us hl => match us, hl with | [], _ => rfl), .nil⟩) ?_ (fun _ _ _ _ h => h)
  rintro vs H Q h
  refine ⟨_, _, rfl, h, fun X Z hM g hf => ?_⟩
  k_extra "ret"
  rfl
/-- a point of the law -/
def isPx (K : PySem.W.Frag) (Φ : Rat → Prop) : Pr := Pr.ex fun q : Rat => Pr.and (Φ q) (isPt K q)
def Sq (a b : Nat) (q : Rat) : Prop := q.num.natAbs < 2 ^ a ∧ q.den < 2 ^ b
theorem Sq.mono {a b a' b' : Nat} {q : Rat} (h : Sq a b q) (h1 : a ≤ a') (h2 : b ≤ b') : Sq a' b' q := ⟨Nat.lt_of_lt_of_le h.1 (nat_pow_le h1), Nat.lt_of_lt_of_le h.2 (nat_pow_le h2)⟩
theorem Sq.add {a b c d e : Nat} {q r : Rat} (h : Sq a b q) (h2 : Sq c d r) (h3 : a + d < e) (h4 : c + b < e) : Sq e (b + d) (q + r) := by
  rw [Rat.add_def']
  have e1 : q.num.natAbs * r.den < 2 ^ (e - 1) := mul_pow h.1 h2.2 (by omega)
  have e2 : r.num.natAbs * q.den < 2 ^ (e - 1) := mul_pow h2.1 h.2 (by omega)
  have e3 : (q.num * (r.den : Int) + r.num * (q.den : Int)).natAbs < 2 ^ e := by
    refine Nat.lt_of_le_of_lt (Int.natAbs_add_le _ _) ?_
    rw [Int.natAbs_mul, Int.natAbs_mul, Int.natAbs_natCast, Int.natAbs_natCast]
    exact pow_add e1 e2 (by omega)
  have e4 : q.den * r.den < 2 ^ (b + d) := mul_pow h.2 h2.2 (Nat.le_refl _)
  have p := Nat.mul_pos q.den_pos r.den_pos
  refine ⟨?_, ?_⟩
  · rw [Rat.num_mkRat, if_neg (by omega)]
    exact Nat.lt_of_le_of_lt (Int.natAbs_ediv_le_natAbs _ _) e3
  · rw [Rat.den_mkRat, if_neg (by omega)]
    exact Nat.lt_of_le_of_lt (Nat.div_le_self _ _) e4
theorem Sq.sm {a b : Nat} {q : Rat} (h : Sq a b q) (h1 : a ≤ 1800) (h2 : b ≤ 900) : Sm q := h.mono h1 h2
theorem px_of {K : PySem.W.Frag} {Φ : Rat → Prop} {q : Rat} (h : Φ q) (S : Hp) (v : V) (p : (isPt K q).p S v) : (isPx K Φ).p S v := ⟨q, h, p⟩
theorem px_mono {K : PySem.W.Frag} {Φ Ψ : Rat → Prop} (h : ∀ q, Φ q → Ψ q) (S : Hp) (v : V) (p : (isPx K Φ).p S v) : (isPx K Ψ).p S v := let ⟨q, a, b⟩ := p; ⟨q, h q a, b⟩
theorem mk_sq {n : Int} {d : Nat} (h1 : 0 < d) (h2 : n.natAbs < 2 ^ 40) (h3 : d < 2 ^ 41) : Sq 41 41 (mkRat n d) := by
  refine ⟨?_, ?_⟩
  · rw [Rat.num_mkRat, if_neg (by omega)]
    exact Nat.lt_of_le_of_lt (Int.natAbs_ediv_le_natAbs _ _) (Nat.lt_of_lt_of_le h2 (nat_pow_le (by decide)))
  · rw [Rat.den_mkRat, if_neg (by omega)]
    exact Nat.lt_of_le_of_lt (Nat.div_le_self _ _) h3
section
variable {u : Uni} {N V G : List Str} {sc : Scope} {k l j : Nat} {X : Cx} {Z : Zn} {Γ : List Ty} {e0 e1 : Expr} {pos p : Pos}
theorem jc_lawsumX {q : Rat} {φ ψ : Rat → Prop} (g : Good u N sc k X) (nm : Nm sc V G) (F : Callable u "_law_sum" l (sp_law_sum u) []) (hl : Nat.ble l k = true) (hG : At G j "_law_sum") (ha : JA X Z Γ [e0, e1] [isPt u.K q, isPx u.K φ]) (h1 : Md q) (h2 : ∀ t, φ t → Md t) (h3 : ∀ t, φ t → ψ (q + t))
    (hs : starEach [e0, e1] X.env = (false, eval e0 X.env) :: starEach [e1] X.env) (hp : (backTo pos (starEach [e1] X.env)).any (·.1) = false) : J X Z Γ (.Call (.Name "_law_sum" p) [e0, e1] [] pos) (isPx u.K ψ) :=
  j_call g F (Nat.le_of_ble_eq_true hl) (fun vs H Q ⟨own, dm, al, qq⟩ => by
    obtain ⟨v, w, rfl, e1, t, ht, e2⟩ := all2 al
    exact ⟨q, t, h1, h2 t ht, own, dm, .cons e1 (.cons e2 .nil), fun v H' s p => qq v H' s ⟨q + t, h3 t ht, p⟩⟩) ha (nm.gl hG) hs hp
end

end Wd

end

section
set_option maxRecDepth 100000
set_option maxHeartbeats 4000000
namespace Wd
open PySem PySem.Spec L2
theorem S_law_spot : FnS ["_law_layout", "_law_a", "_law_b", "_law_one", "_law_other", "_law_x", "_law_y"] ["_law_layout", "_law_a", "_law_b"] ["_law_layout", "_law_a", "_law_b", "_law_one", "_law_other", "_law_x", "_law_y"] ["len", "_law_sum", "_law_part"] (defScope (topS 104)) := ⟨by decide +kernel⟩
def sp_law_spot (u : Uni) : Sp := fun vs H Q _ => ∃ (rows : List Rw) (a b : Int), (∀ r ∈ rows, RwSn r) ∧ rows ≠ [] ∧ rows.length ≤ 1000 ∧ 0 ≤ a ∧ 0 ≤ b ∧ Pf [isL (rows.map (isRw u.K)), isI a, isI b] (Pr.ex fun q : Rat × Rat => Pr.and (Sm q.1 ∧ Sm q.2) (isT u.K [isPt u.K q.1, isPt u.K q.2])) vs H Q
theorem c_law_spot {u : Uni} (bt : Bts u) (c_law_sum : Callable u "_law_sum" 3 (sp_law_sum u) []) (c_law_part : Callable u "_law_part" 2 (sp_law_part u) []) (Df : Defd u "_law_spot" "_law_spot" (topS 104) []) : Callable u "_law_spot" 4 (sp_law_spot u) [] := by
  refine fn_pure (k := 3) (ps := ["_law_layout", "_law_a", "_law_b"]) Df S_law_spot.scope (fun f fd F => ⟨[], F.bindsN (fun _ _ _ _ _ _ us hl => match us, hl with | [_, _, _], _ => rfl), .nil⟩) ?_ (fun _ _ _ _ h => h)
  rintro vs H Q ⟨rows, a, b, h1, h2, h3, h4, h5, h⟩
  refine ⟨_, _, rfl, h, fun X Z hM g hf => ?_⟩
  have S := S_law_spot
  have nm := S.nm
  have len0 : 0 < rows.length := List.length_pos_iff.mpr h2
  have len1 : (0 : Int) < (rows.length : Int) := by omega
  have lm : (rows.map (isRw u.K)).length = rows.length := List.length_map ..
  have pick : ∀ m : Int, ∃ r, r ∈ rows ∧ atI (rows.map (isRw u.K)) (m % (rows.length : Int)) = some (isRw u.K r) := fun m => by
    obtain ⟨i, hi⟩ := Int.eq_ofNat_of_zero_le (Int.emod_nonneg m (show (rows.length : Int) ≠ 0 by omega))
    have lt := Int.emod_lt_of_pos m len1
    rw [hi] at lt ⊢
    have lt : i < rows.length := by omega
    exact ⟨rows[i], List.getElem_mem lt, atI_nat (by rw [List.getElem?_map, List.getElem?_eq_getElem lt]; rfl)⟩
  obtain ⟨r1, m1, x1⟩ := pick a
  obtain ⟨r2, m2, x2⟩ := pick b
  obtain ⟨a1, a2, a3, a4⟩ := h1 r1 m1
  obtain ⟨b1, b2, b3, b4⟩ := h1 r2 m2
  have cx : Sq 900 400 r1.x := a1
  have cw : Sq 900 400 r1.w := a3
  have cy : Sq 900 400 r2.y := b2
  have ch : Sq 900 400 r2.h := b4
  k_extra "pair"
  k_extra "pair"
  have wS : ∀ q, Sq 900 400 q → Sq 1301 800 q := fun q h => h.mono (by decide) (by decide)
  have wT : ∀ q, Sq 1301 800 q → Sq 1400 850 q := fun q h => h.mono (by decide) (by decide)
  refine tr_ifJ [.val (isL (rows.map (isRw u.K))), .val (isI a), .val (isI b), .val (isRw u.K r1), .val (isRw u.K r2), .val (isPx u.K (Sq 1301 800)), .val (isPt u.K r2.y)] (by k_extra "t") (fun _ => ?_) (fun own σ H g => g.sub (Sub.cons (Ty.Le.refl _) (Sub.cons (Ty.Le.refl _) (Sub.cons (Ty.Le.refl _) (Sub.cons (Ty.Le.refl _) (Sub.cons (Ty.Le.refl _) (Sub.cons (Ty.Le.val (px_of (wS _ cx))) (Sub.cons (Ty.Le.refl _) (Sub.nil))))))))) ?_
  · have s1 := a1.sm
    have s3 := a3.sm
    k_extra "let"
    exact tr_join (fun own σ H g => g.sub (Sub.cons (Ty.Le.refl _) (Sub.cons (Ty.Le.refl _) (Sub.cons (Ty.Le.refl _) (Sub.cons (Ty.Le.refl _) (Sub.cons (Ty.Le.refl _) (Sub.cons (Ty.Le.val (px_of (cx.add cw (by decide) (by decide)))) (Sub.cons (Ty.Le.refl _) (Sub.nil))))))))) rfl
  refine tr_ifJ [.val (isL (rows.map (isRw u.K))), .val (isI a), .val (isI b), .val (isRw u.K r1), .val (isRw u.K r2), .val (isPx u.K (Sq 1301 800)), .val (isPx u.K (Sq 1301 800))] (by k_extra "t") (fun _ => ?_) (fun own σ H g => g.sub (Sub.cons (Ty.Le.refl _) (Sub.cons (Ty.Le.refl _) (Sub.cons (Ty.Le.refl _) (Sub.cons (Ty.Le.refl _) (Sub.cons (Ty.Le.refl _) (Sub.cons (Ty.Le.refl _) (Sub.cons (Ty.Le.val (px_of (wS _ cy))) (Sub.nil))))))))) ?_
  · have s1 := b2.sm
    have s3 := b4.sm
    k_extra "let"
    exact tr_join (fun own σ H g => g.sub (Sub.cons (Ty.Le.refl _) (Sub.cons (Ty.Le.refl _) (Sub.cons (Ty.Le.refl _) (Sub.cons (Ty.Le.refl _) (Sub.cons (Ty.Le.refl _) (Sub.cons (Ty.Le.refl _) (Sub.cons (Ty.Le.val (px_of (cy.add ch (by decide) (by decide)))) (Sub.nil))))))))) rfl
  have p12 : CPow 10 12 := ⟨by decide, by decide, by decide⟩
  have c1 : Sq 41 41 (mkRat 1 7) := mk_sq (by decide) (by decide) (by decide)
  have c2 : Sq 41 41 (mkRat (-1) 7) := mk_sq (by decide) (by decide) (by decide)
  have c3 : Sq 41 41 (mkRat 1 1000000000000) := mk_sq (by decide) (by decide) (by decide)
  have c4 : Sq 41 41 (mkRat (-1) 3) := mk_sq (by decide) (by decide) (by decide)
  have shifts : PsLe [isTt [isI 1, isI 7], isTt [isI (0 - 1), isI 7], isTt [isI 1, isI ((10 : Int) ^ (12 : Int).toNat)], isTt [isI (0 - 1), isI 3]] (List.replicate 4 (isPx u.K (Sq 41 41))) :=
    .cons (fun S v h => px_of c1 S v (tt_T (K := u.K) S v h)) (.cons (fun S v h => px_of c2 S v (tt_T (K := u.K) S v h)) (.cons (fun S v h => px_of c3 S v (tt_T (K := u.K) S v h)) (.cons (fun S v h => px_of c4 S v (tt_T (K := u.K) S v h)) .nil)))
  refine tr_ifJ [.val (isL (rows.map (isRw u.K))), .val (isI a), .val (isI b), .val (isRw u.K r1), .val (isRw u.K r2), .val (isPx u.K (Sq 1400 850)), .val (isPx u.K (Sq 1301 800))] (by k_extra "t") (fun _ => ?_) (fun own σ H g => g.sub (Sub.cons (Ty.Le.refl _) (Sub.cons (Ty.Le.refl _) (Sub.cons (Ty.Le.refl _) (Sub.cons (Ty.Le.refl _) (Sub.cons (Ty.Le.refl _) (Sub.cons (Ty.Le.val (px_mono wT)) (Sub.cons (Ty.Le.refl _) (Sub.nil))))))))) ?_
  · refine tr_ex 5 rfl fun q => tr_and 5 rfl fun hq => ?_
    apply tr_let g hf S (P := isPx u.K (Sq 1400 850))
    · k_extra "at"
    · k_extra "at"
    · apply jc_lawsumX (q := q) (φ := Sq 41 41) g nm c_law_sum rfl
      · k_extra "at"
      · apply ja_cons
        · k_extra "j"
        · apply ja_cons
          · apply j_ix g (P1 := isL (List.replicate 4 (isPx u.K (Sq 41 41)))) (n := a / 1024 % 4)
            · apply J.imp
              · k_extra "j"
              · exact isL_wk shifts
            · k_extra "j"
            · exact ix_L lst_L (at_rep (by omega) (by omega))
            · exact fun _ _ => rfl
          · k_extra "ja"
          · exact rfl
        · exact rfl
      · exact (hq.sm (by decide) (by decide)).md
      · exact fun t ht => (ht.sm (by decide) (by decide)).md
      · exact fun t ht => (hq.add ht (e := 1400) (by decide) (by decide)).mono (by decide) (by decide)
      · exact rfl
      · exact rfl
    · exact rfl
    · exact rfl
    exact tr_join (fun own σ H g => g) rfl
  refine tr_ifJ [.val (isL (rows.map (isRw u.K))), .val (isI a), .val (isI b), .val (isRw u.K r1), .val (isRw u.K r2), .val (isPx u.K (Sq 1400 850)), .val (isPx u.K (Sq 1400 850))] (by k_extra "t") (fun _ => ?_) (fun own σ H g => g.sub (Sub.cons (Ty.Le.refl _) (Sub.cons (Ty.Le.refl _) (Sub.cons (Ty.Le.refl _) (Sub.cons (Ty.Le.refl _) (Sub.cons (Ty.Le.refl _) (Sub.cons (Ty.Le.refl _) (Sub.cons (Ty.Le.val (px_mono wT)) (Sub.nil))))))))) ?_
  · refine tr_ex 6 rfl fun q => tr_and 6 rfl fun hq => ?_
    apply tr_let g hf S (P := isPx u.K (Sq 1400 850))
    · k_extra "at"
    · k_extra "at"
    · apply jc_lawsumX (q := q) (φ := Sq 41 41) g nm c_law_sum rfl
      · k_extra "at"
      · apply ja_cons
        · k_extra "j"
        · apply ja_cons
          · apply j_ix g (P1 := isL (List.replicate 4 (isPx u.K (Sq 41 41)))) (n := b / 1024 % 4)
            · apply J.imp
              · k_extra "j"
              · exact isL_wk shifts
            · k_extra "j"
            · exact ix_L lst_L (at_rep (by omega) (by omega))
            · exact fun _ _ => rfl
          · k_extra "ja"
          · exact rfl
        · exact rfl
      · exact (hq.sm (by decide) (by decide)).md
      · exact fun t ht => (ht.sm (by decide) (by decide)).md
      · exact fun t ht => (hq.add ht (e := 1400) (by decide) (by decide)).mono (by decide) (by decide)
      · exact rfl
      · exact rfl
    · exact rfl
    · exact rfl
    exact tr_join (fun own σ H g => g) rfl
  refine tr_ex 5 rfl fun q => tr_and 5 rfl fun hq => tr_ex 6 rfl fun r => tr_and 6 rfl fun hr => ?_
  k_extra "if"
  · intro _
    have e1 : Sq 41 41 (mkRat (a % 2000) (3 : Int).toNat) := mk_sq (by decide) (by omega) (by decide)
    have e2 : Sq 41 41 (mkRat (b % 500) (2 : Int).toNat) := mk_sq (by decide) (by omega) (by decide)
    have d3 : (3 : Int).natAbs < 2 ^ 8000 := Nat.lt_of_lt_of_le (show (3 : Int).natAbs < 2 ^ 40 by decide) (nat_pow_le (by decide))
    have d2 : (2 : Int).natAbs < 2 ^ 8000 := Nat.lt_of_lt_of_le (show (2 : Int).natAbs < 2 ^ 40 by decide) (nat_pow_le (by decide))
    apply tr_retB
    apply J.imp
    · k_extra "j"
    · exact fun S v h => ⟨(_, _), ⟨e1.sm (by decide) (by decide), e2.sm (by decide) (by decide)⟩, tt_T S v h⟩
  · intro _
    refine tr_end ?_
    apply tr_retP
    apply J.imp
    · k_extra "j"
    · exact fun S v h => ⟨(q, r), ⟨hq.sm (by decide) (by decide), hr.sm (by decide) (by decide)⟩, tt_T S v h⟩

end Wd

end

section
set_option maxRecDepth 100000
set_option maxHeartbeats 4000000
namespace Wd
open PySem PySem.Spec L2
/-! ### from places to points -/
theorem hasPt_iff {x y : Rat} {r : Rw} : hasPt x y r = true ↔ r.x ≤ x ∧ x < r.x + r.w ∧ r.y ≤ y ∧ y < r.y + r.h := by
  unfold hasPt within
  simp only [Bool.and_eq_true, Bool.not_eq_true', decide_eq_false_iff_not, decide_eq_true_eq, Rat.not_lt]
  constructor
  · rintro ⟨⟨a, b⟩, c, d⟩; exact ⟨a, b, c, d⟩
  · rintro ⟨a, b, c, d⟩; exact ⟨⟨a, b⟩, c, d⟩
theorem Sep.pt {a b : Rw} {x y : Rat} (h : Sep a b) (h1 : hasPt x y a = true) (h2 : hasPt x y b = true) : False := by
  obtain ⟨a1, a2, a3, a4⟩ := hasPt_iff.mp h1
  obtain ⟨b1, b2, b3, b4⟩ := hasPt_iff.mp h2
  rcases h with h | h
  · grind
  · grind
-- names of the boxes within, each with the name of the box around it
mutual
def Bx.ups : Bx → List (Str × Str)
  | .box _ _ _ => []
  | .row n _ _ _ _ ks => Bx.upss n ks
  | .col n _ _ _ ks => Bx.upss n ks
def Bx.upss (n : Str) : List Bx → List (Str × Str)
  | [] => []
  | b :: bs => (b.name, n) :: b.ups ++ Bx.upss n bs
end
theorem Bx.ups_eq (b : Bx) : b.ups = Bx.upss b.name b.kids := by
  cases b with
  | box => rw [Bx.ups]; rfl
  | row => rw [Bx.ups]; rfl
  | col => rw [Bx.ups]; rfl
theorem Bx.upss_fst (n : Str) : ∀ ks : List Bx, (Bx.upss n ks).map (·.1) = (ks.map Bx.names).flatten
  | [] => rfl
  | b :: bs => by
    have ih := Bx.upss_fst n bs
    have hb : b.name :: b.ups.map (·.1) = b.names := by
      cases b with
      | box => rw [Bx.ups, Bx.names]; rfl
      | row m s sp sd go ks => rw [Bx.ups, Bx.upss_fst m ks, Bx.names, Bx.namess_eq]; rfl
      | col m s sp sd ks => rw [Bx.ups, Bx.upss_fst m ks, Bx.names, Bx.namess_eq]; rfl
    rw [Bx.upss, List.map_cons, List.flatten_cons, ← hb, ← ih]
    simp
/-- at a common point the parents differ -/
def NS (up : Str → Str) (a b : Rw) : Prop := ∀ x y, hasPt x y a = true → hasPt x y b = true → up a.name ≠ up b.name
mutual
theorem Laid.ns {up : Str → Str} : ∀ {b : Bx} {r : Rw} {rest : List Rw}, Laid b r rest → (∀ e ∈ b.ups, up e.1 = e.2) → b.names.Nodup → (∀ q ∈ rest, up q.name ∈ b.names) ∧ rest.Pairwise (NS up)
  | b, _, _, .mk _ h2 _ h4, he, nd => by
    rw [Bx.ups_eq] at he
    rw [Bx.names_eq] at nd ⊢
    obtain ⟨n1, n2⟩ := List.nodup_cons.mp nd
    obtain ⟨k1, k2⟩ := Laids.ns h2 he n1 n2 h4
    refine ⟨fun q hq => ?_, k2⟩
    rcases k1 q hq with ⟨_, z⟩ | z
    · rw [z]; exact List.mem_cons_self
    · exact List.mem_cons_of_mem _ z
theorem Laids.ns {up : Str → Str} {n : Str} : ∀ {ks : List Bx} {hs rs : List Rw}, Laids ks hs rs → (∀ e ∈ Bx.upss n ks, up e.1 = e.2) → n ∉ (ks.map Bx.names).flatten → (ks.map Bx.names).flatten.Nodup → hs.Pairwise Sep →
    (∀ q ∈ rs, (q ∈ hs ∧ up q.name = n) ∨ up q.name ∈ (ks.map Bx.names).flatten) ∧ rs.Pairwise (NS up)
  | _, _, _, .nil, _, _, _, _ => ⟨(fun _ h => nomatch h), .nil⟩
  | _, _, _, .cons (k := k) (ks := ks) (h := h) (hs := hs) (rest := rest) (more := more) h1 h2, he, hn, nd, sep => by
    rw [Bx.upss] at he
    rw [List.map_cons, List.flatten_cons] at hn nd ⊢
    obtain ⟨s1, s2⟩ := List.pairwise_cons.mp sep
    obtain ⟨d1, d2, d3⟩ := List.nodup_append.mp nd
    have e1 : up h.name = n := by
      have hnm : h.name = k.name := by
        have := h1.names
        rw [Bx.names_eq, List.map_cons] at this
        exact (List.cons.inj this).1
      rw [hnm]
      exact he (k.name, n) (by simp)
    obtain ⟨a1, a2⟩ := Laid.ns h1 (fun e z => he e (by simp [z])) d1
    obtain ⟨b1, b2⟩ := Laids.ns h2 (fun e z => he e (by simp [z])) (fun z => hn (List.mem_append_right _ z)) d2 s2
    refine ⟨fun q hq => ?_, ?_⟩
    · rcases List.mem_append.mp hq with z | z
      · rcases List.mem_cons.mp z with rfl | z
        · exact .inl ⟨List.mem_cons_self, e1⟩
        · exact .inr (List.mem_append_left _ (a1 q z))
      · rcases b1 q z with ⟨z1, z2⟩ | z1
        · exact .inl ⟨List.mem_cons_of_mem _ z1, z2⟩
        · exact .inr (List.mem_append_right _ z1)
    · refine List.pairwise_append.mpr ⟨List.pairwise_cons.mpr ⟨fun q hq x y p1 p2 e => ?_, a2⟩, b2, fun p hp q hq x y p1 p2 e => ?_⟩
      · rw [e1] at e
        exact hn (List.mem_append_left _ (e ▸ a1 q hq))
      · rcases List.mem_cons.mp hp with rfl | hp
        · rcases b1 q hq with ⟨z1, z2⟩ | z1
          · exact (s1 q z1).pt p1 p2
          · rw [e1] at e
            exact hn (List.mem_append_right _ (e ▸ z1))
        · have m1 := a1 p hp
          rcases b1 q hq with ⟨z1, z2⟩ | z1
          · rw [e, z2] at m1
            exact hn (List.mem_append_left _ m1)
          · rw [e] at m1
            exact d3 _ m1 _ z1 rfl
end
theorem Laid.ups_nodup {up : Str → Str} {b : Bx} {r : Rw} {rest : List Rw} (h : Laid b r rest) (he : ∀ e ∈ b.ups, up e.1 = e.2) (hr : up b.name ∉ b.names) (nd : b.names.Nodup) (x y : Rat) : (((r :: rest).filter (hasPt x y)).map fun q => up q.name).Nodup := by
  obtain ⟨a1, a2⟩ := h.ns he nd
  have e1 : r.name = b.name := by
    have := h.names
    rw [Bx.names_eq, List.map_cons] at this
    exact (List.cons.inj this).1
  have pw : (r :: rest).Pairwise (NS up) := List.pairwise_cons.mpr ⟨fun q hq x y _ _ e => hr (by rw [← e1, e]; exact a1 q hq), a2⟩
  refine List.pairwise_map.mpr ?_
  refine List.Pairwise.imp_of_mem (fun {p q} hp hq h => ?_) (pw.filter _)
  exact h x y (List.mem_filter.mp hp).2 (List.mem_filter.mp hq).2
-- no box begins before the one around it
mutual
theorem Laid.after {b : Bx} {r : Rw} {rest : List Rw} : Laid b r rest → b.names.Nodup → ∀ e ∈ b.ups, ∃ p q, p ∈ r :: rest ∧ q ∈ rest ∧ q.name = e.1 ∧ p.name = e.2 ∧ p.x ≤ q.x ∧ p.y ≤ q.y
  | .mk h1 h2 h3 _, nd, e, he => by
    rw [Bx.ups_eq] at he
    rw [Bx.names_eq] at nd
    obtain ⟨q, q1, q2, q3⟩ := Laids.after h2 (List.nodup_cons.mp nd).2 e he
    rcases q3 with ⟨z1, z2⟩ | ⟨p, z1, z2, z3⟩
    · exact ⟨r, q, List.mem_cons_self, q1, q2, by rw [h1, z2], h3 q z1⟩
    · exact ⟨p, q, List.mem_cons_of_mem _ z1, q1, q2, z2, z3⟩
theorem Laids.after {n : Str} {ks : List Bx} {hs rs : List Rw} : Laids ks hs rs → (ks.map Bx.names).flatten.Nodup → ∀ e ∈ Bx.upss n ks, ∃ q, q ∈ rs ∧ q.name = e.1 ∧ ((q ∈ hs ∧ e.2 = n) ∨ ∃ p, p ∈ rs ∧ p.name = e.2 ∧ p.x ≤ q.x ∧ p.y ≤ q.y)
  | .nil, _, e, he => by rw [Bx.upss] at he; cases he
  | .cons (k := k) (h := h) h1 h2, nd, e, he => by
    rw [Bx.upss] at he
    rw [List.map_cons, List.flatten_cons] at nd
    obtain ⟨d1, d2, d3⟩ := List.nodup_append.mp nd
    rcases List.mem_append.mp he with z | z
    · rcases List.mem_cons.mp z with rfl | z
      · have hnm : h.name = k.name := by
          have := h1.names
          rw [Bx.names_eq, List.map_cons] at this
          exact (List.cons.inj this).1
        exact ⟨h, by simp, hnm, .inl ⟨List.mem_cons_self, rfl⟩⟩
      · obtain ⟨p, q, p1, q1, q2, p2, p3⟩ := Laid.after h1 d1 e z
        exact ⟨q, List.mem_append_left _ (List.mem_cons_of_mem _ q1), q2, .inr ⟨p, List.mem_append_left _ p1, p2, p3⟩⟩
    · obtain ⟨q, q1, q2, q3⟩ := Laids.after h2 d2 e z
      rcases q3 with ⟨z1, z2⟩ | ⟨p, z1, z2, z3⟩
      · exact ⟨q, List.mem_append_right _ q1, q2, .inl ⟨List.mem_cons_of_mem _ z1, z2⟩⟩
      · exact ⟨q, List.mem_append_right _ q1, q2, .inr ⟨p, List.mem_append_right _ z1, z2, z3⟩⟩
end
theorem hasPt_cross {x y e f : Rat} {r : Rw} (h : hasPt x y r = true) (he : 0 < e) (hf : 0 < f) : crossRw x y e f r = true := by
  obtain ⟨a1, a2, a3, a4⟩ := hasPt_iff.mp h
  unfold crossRw common
  rw [Bool.and_eq_true]
  exact ⟨decide_eq_true (by grind), decide_eq_true (by grind)⟩
theorem within_lt {l n p : Rat} : within l n p = (!decide (p < l) && decide (p < l + n)) := rfl
theorem Laid.mem_names {b : Bx} {r : Rw} {rest : List Rw} (h : Laid b r rest) (nd : b.names.Nodup) {q : Rw} {x y : Rat} (hq : q ∈ r :: rest) : (q.name ∈ ((r :: rest).filter (hasPt x y)).map Rw.name) ↔ hasPt x y q = true := by
  have hn : ((r :: rest).map Rw.name).Nodup := by rw [h.names]; exact nd
  constructor
  · intro z
    obtain ⟨p, hp, e⟩ := List.mem_map.mp z
    obtain ⟨p1, p2⟩ := List.mem_filter.mp hp
    obtain ⟨i, hi⟩ := List.getElem?_of_mem p1
    obtain ⟨j, hj⟩ := List.getElem?_of_mem hq
    have l1 : i < ((r :: rest).map Rw.name).length := by rw [List.length_map]; exact get_lt hi
    have ei : ((r :: rest).map Rw.name)[i]? = ((r :: rest).map Rw.name)[j]? := by rw [List.getElem?_map, List.getElem?_map, hi, hj]; exact congrArg some e
    have : i = j := (List.getElem?_inj l1 hn).mp ei
    subst this
    rw [hi] at hj
    cases hj
    exact p2
  · intro z
    exact List.mem_map.mpr ⟨q, List.mem_filter.mpr ⟨hq, z⟩, rfl⟩

end Wd

end

section
set_option maxRecDepth 100000
set_option maxHeartbeats 4000000
namespace Wd
open PySem PySem.Spec L2
open TL
/-! ### texts of boxes: plain -/
theorem starts_eq (x y : Str) : Txt.startswith x y = (tl y).isPrefixOf (tl x) := by
  have hx : x.length = (tl x).length := len_cps x
  have hy : y.length = (tl y).length := len_cps y
  rw [Bool.eq_iff_iff, List.isPrefixOf_iff_prefix]
  unfold Txt.startswith Builtin.Str.subAt
  rw [Bool.and_eq_true, decide_eq_true_eq, beq_iff_eq, ← Array.toList_inj, Array.toList_extract]
  simp only [Nat.zero_add, List.extract, List.drop_zero, Nat.sub_zero]
  constructor
  · rintro ⟨h1, h2⟩
    exact ⟨(tl x).drop y.length, by rw [show tl y = _ from h2.symm]; exact List.take_append_drop ..⟩
  · rintro ⟨t, ht⟩
    refine ⟨by rw [hx, hy, ← ht, List.length_append]; omega, ?_⟩
    rw [show x.cps.toList = tl y ++ t from ht.symm, hy, List.take_left]
theorem strip_none {s : Str} (h : s = "") (t : Str) : Txt.stripChars s t = "" := by
  subst h
  unfold Txt.stripChars
  rw [PySem.W.stripBy_eq]
  rfl
theorem sub_len (x : Str) (lo hi : Nat) : (Builtin.Str.strSub x lo hi).length = min hi x.length - lo := by
  unfold Builtin.Str.strSub Str.length
  simp
theorem strip_some {s t : Str} {c : Nat} (h : c ∈ tl s) (hc : t.cps.contains c = false) : Txt.stripChars s t ≠ "" := by
  intro z
  unfold Txt.stripChars at z
  rw [PySem.W.stripBy_eq] at z
  have hl := congrArg Str.length z
  have e0 : ("" : Str).length = 0 := rfl
  rw [e0] at hl
  unfold PySem.W.stripped at hl
  rw [sub_len] at hl
  simp only [if_true] at hl
  have hs : s.length = (tl s).length := len_cps s
  -- cut at the first sign that stays
  have key : ∀ l : List Nat, (∃ c ∈ l, t.cps.contains c = false) → (l.takeWhile t.cps.contains).length < l.length ∧ ∃ c ∈ l.drop (l.takeWhile t.cps.contains).length, t.cps.contains c = false := by
    intro l
    induction l with
    | nil => rintro ⟨c, h, _⟩; cases h
    | cons a l ih =>
      rintro ⟨c, h, hc⟩
      cases ha : t.cps.contains a with
      | false =>
        have e : (a :: l).takeWhile t.cps.contains = [] := by rw [List.takeWhile_cons, ha]; rfl
        rw [e]
        exact ⟨by simp, a, by simp, ha⟩
      | true =>
        have e : (a :: l).takeWhile t.cps.contains = a :: l.takeWhile t.cps.contains := by rw [List.takeWhile_cons, ha]; rfl
        have hc' : c ∈ l := by
          rcases List.mem_cons.mp h with z | z
          · rw [z, ha] at hc; cases hc
          · exact z
        obtain ⟨k1, k2⟩ := ih ⟨c, hc', hc⟩
        rw [e]
        exact ⟨by simp; exact k1, by simpa using k2⟩
  obtain ⟨k1, d, k2, k3⟩ := key (tl s) ⟨c, h, hc⟩
  obtain ⟨r1, _⟩ := key ((tl s).drop ((tl s).takeWhile t.cps.contains).length).reverse ⟨d, List.mem_reverse.mpr k2, k3⟩
  rw [List.length_reverse, List.length_drop] at r1
  have hl2 : min (s.length - (((tl s).drop ((tl s).takeWhile t.cps.contains).length).reverse.takeWhile t.cps.contains).length) s.length - ((tl s).takeWhile t.cps.contains).length = 0 := hl
  omega
/-! numbers -/
def numS (n : Int) : Str := Str.ofString (toString n)
def szS : Option Int → Str
  | none => "-"
  | some n => numS n
theorem numS_tl {n : Int} (h : 0 ≤ n) : tl (numS n) = numL n.toNat := by
  unfold numS
  rw [← tl_num, Int.toNat_of_nonneg h]
def numOk (n : Nat) : Bool := decide ((numL n).length ≤ 4) && (decide (1 < (numL n).length) → (numL n)[0]? ≠ some 48)
theorem nums_ok : ∀ n : Nat, n < 1001 → (numL n).length ≤ 4 ∧ (1 < (numL n).length → (numL n)[0]? ≠ some 48) := by decide +kernel
theorem fig_tl : figS.cps.toList = [48, 49, 50, 51, 52, 53, 54, 55, 56, 57] := by decide +kernel
theorem numS_fig {n : Int} (h : 0 ≤ n) (h2 : n ≤ 1000) : FigOk (numS n) ∧ (numS n).length ≤ 4 := by
  have e : (numS n).cps.toList = _ := numS_tl h
  obtain ⟨k1, k2⟩ := nums_ok n.toNat (by omega)
  have hl : (numS n).length = (numL n.toNat).length := by rw [len_cps, e]
  refine ⟨⟨by rw [e]; exact numL_ne _, by omega, fun z => by rw [e]; exact k2 (by omega), fun c hc => ?_⟩, by omega⟩
  rw [e] at hc
  have := numL_digits _ c hc
  rw [fig_tl]
  simp only [List.mem_cons, List.not_mem_nil, or_false]
  omega
theorem numS_int {n : Int} (h : 0 ≤ n) (h2 : n ≤ 1000) : PySem.intText? (numS n) = some n := by
  have e : (numS n).cps.toList = _ := numS_tl h
  have hl := (numS_fig h h2).2
  rw [PySem.intText_digits (by rw [e]; exact numL_digits _) (by rw [e]; exact numL_ne _) (by omega), e, numL_val, Int.toNat_of_nonneg h]
theorem numS_inj {m n : Int} (h : 0 ≤ m) (h2 : 0 ≤ n) (e : numS m = numS n) : m = n := by
  have := congrArg tl e
  rw [numS_tl h, numS_tl h2] at this
  have := numL_inj this
  omega
/-- a word: no blank, no line's end -/
def Wrd (s : Str) : Prop := ∀ c ∈ tl s, 33 ≤ c ∧ c < 128
theorem wrd_num {n : Int} (h : 0 ≤ n) : Wrd (numS n) := fun c hc => by
  rw [numS_tl h] at hc
  have := numL_digits _ c hc
  omega
theorem wrd_szS {o : Option Int} (h : ∀ m, o = some m → 0 ≤ m) : Wrd (szS o) := by
  cases o with
  | none => exact (show ∀ c ∈ tl ("-" : Str), 33 ≤ c ∧ c < 128 by decide +kernel)
  | some m => exact wrd_num (h m rfl)
theorem signs_ge : ∀ c ∈ signsS.cps.toList, 33 ≤ c ∧ c < 128 := by decide +kernel
theorem NmOk.wrd {s : Str} (h : NmOk s) : Wrd s := fun c hc => signs_ge c (h.all c hc)

end Wd

end

section
set_option maxRecDepth 100000
set_option maxHeartbeats 4000000
namespace Wd
open PySem PySem.Spec L2
open TL
/-! ### joined texts -/
theorem joinL_mem {S : List Nat} {c : Nat} : ∀ {ps : List (List Nat)}, c ∈ joinL S ps → c ∈ S ∨ ∃ p ∈ ps, c ∈ p
  | [], h => by cases h
  | [p], h => .inr ⟨p, by simp, h⟩
  | p :: q :: r, h => by
    rw [joinL] at h
    rcases List.mem_append.mp h with h | h
    · exact .inr ⟨p, by simp, h⟩
    · rcases List.mem_append.mp h with h | h
      · exact .inl h
      · rcases joinL_mem h with h | ⟨p', h1, h2⟩
        · exact .inl h
        · exact .inr ⟨p', List.mem_cons_of_mem _ h1, h2⟩
theorem joinL_len {S : List Nat} {n : Nat} : ∀ {ps : List (List Nat)}, (∀ p ∈ ps, p.length ≤ n) → (joinL S ps).length ≤ ps.length * (n + S.length)
  | [], _ => Nat.zero_le _
  | [p], h => by
    have := h p (by simp)
    show p.length ≤ _
    simp
    omega
  | p :: q :: r, h => by
    have h1 := h p (by simp)
    have h2 := joinL_len (S := S) (ps := q :: r) fun x hx => h x (List.mem_cons_of_mem _ hx)
    rw [joinL, List.length_append, List.length_append, List.length_cons, Nat.succ_mul]
    omega
theorem joinL_head {S p : List Nat} {c : Nat} (h : p[0]? = some c) : ∀ r : List (List Nat), (joinL S (p :: r))[0]? = some c
  | [] => h
  | q :: r => by
    rw [joinL, List.getElem?_append_left (get_lt h)]
    exact h
theorem join_tl (y : Str) (ps : List Str) : (Txt.join y ps).cps.toList = joinL y.cps.toList (ps.map tl) := by rw [join_eq]; exact tl_join y ps
/-! ### the row of a box -/
def Bx.ws : Bx → List Str
  | .box n s h => ["box", n, numS s.wish, numS s.least, szS s.most, numS s.grow, numS s.shrink, numS h]
  | .row n s sp sd go _ => (["row", n, numS s.wish, numS s.least, szS s.most, numS s.grow, numS s.shrink, numS sp, sd] : List Str) ++ (if go = true then (["breaks"] : List Str) else [])
  | .col n s sp sd _ => ["column", n, numS s.wish, numS s.least, szS s.most, numS s.grow, numS s.shrink, numS sp, sd]
def Bx.rowS (b : Bx) : Str := Txt.join " " b.ws
def WrdL (s : Str) : Prop := Wrd s ∧ s.length ≤ 8
instance (s : Str) : Decidable (Wrd s) := inferInstanceAs (Decidable (∀ c ∈ tl s, 33 ≤ c ∧ c < 128))
instance (s : Str) : Decidable (WrdL s) := inferInstanceAs (Decidable (_ ∧ _))
theorem wl_num {n : Int} (h : 0 ≤ n) (h2 : n ≤ 1000) : WrdL (numS n) := ⟨wrd_num h, by have := (numS_fig h h2).2; omega⟩
theorem wl_sz {o : Option Int} (h : ∀ m, o = some m → 0 ≤ m ∧ m ≤ 1000) : WrdL (szS o) := by
  cases o with
  | none => exact (show WrdL "-" by decide +kernel)
  | some m => exact wl_num (h m rfl).1 (h m rfl).2
theorem NmOk.wl {s : Str} (h : NmOk s) : WrdL s := ⟨h.wrd, h.l8⟩
theorem wl_lean : ∀ s ∈ leansL, WrdL s := by decide +kernel
theorem SzOk.most {s : Sz} (h : SzOk s) : ∀ m, s.most = some m → 0 ≤ m ∧ m ≤ 1000 := fun m e => by
  obtain ⟨q1, q2⟩ := h.m1 m e
  have := h.l0
  have := h.lw
  omega
theorem SzOk.wish0 {s : Sz} (h : SzOk s) : 0 ≤ s.wish := Int.le_trans h.l0 h.lw
theorem SzOk.least1 {s : Sz} (h : SzOk s) : s.least ≤ 1000 := Int.le_trans h.lw h.w1
theorem SzOk.wl {s : Sz} (h : SzOk s) : ∀ w ∈ [numS s.wish, numS s.least, szS s.most, numS s.grow, numS s.shrink], WrdL w := by
  have a := wl_num h.wish0 h.w1
  have b := wl_num h.l0 h.least1
  have c := wl_sz h.most
  have d := wl_num h.g0 (by have := h.g1; omega)
  have e := wl_num h.s0 (by have := h.s1; omega)
  intro w hw
  simp only [List.mem_cons, List.not_mem_nil, or_false] at hw
  rcases hw with rfl | rfl | rfl | rfl | rfl <;> assumption
theorem Bx.ws_ok {b : Bx} (h : b.ok) : (∀ w ∈ b.ws, WrdL w) ∧ b.ws.length ≤ 10 := by
  cases b with
  | box n s hi =>
    rw [Bx.ok] at h
    obtain ⟨h1, h2, h3, h4⟩ := h
    refine ⟨?_, by simp [Bx.ws]⟩
    have a := h2.wl
    have c := wl_num h3 h4
    have d := h1.wl
    have e : WrdL "box" := by decide +kernel
    intro w hw
    rw [Bx.ws] at hw
    rcases List.mem_cons.mp hw with rfl | hw
    · exact e
    · rcases List.mem_cons.mp hw with rfl | hw
      · exact d
      · rcases List.mem_append.mp (show w ∈ [numS s.wish, numS s.least, szS s.most, numS s.grow, numS s.shrink] ++ [numS hi] from hw) with z | z
        · exact a w z
        · rw [List.mem_singleton.mp z]; exact c
  | row n s sp sd go ks =>
    rw [Bx.ok] at h
    obtain ⟨h1, h2, h3, h4, h5, h6, h7⟩ := h
    refine ⟨?_, by cases go <;> simp [Bx.ws]⟩
    have a := h2.wl
    have c := wl_num h3 h4
    have d := h1.wl
    have e : WrdL "row" := by decide +kernel
    have e2 : WrdL "breaks" := by decide +kernel
    have f := wl_lean sd h5
    intro w hw
    rw [Bx.ws] at hw
    rcases List.mem_append.mp hw with hw | hw
    · rcases List.mem_cons.mp hw with rfl | hw
      · exact e
      · rcases List.mem_cons.mp hw with rfl | hw
        · exact d
        · rcases List.mem_append.mp (show w ∈ [numS s.wish, numS s.least, szS s.most, numS s.grow, numS s.shrink] ++ [numS sp, sd] from hw) with z | z
          · exact a w z
          · rcases List.mem_cons.mp z with rfl | z
            · exact c
            · rw [List.mem_singleton.mp z]; exact f
    · cases go with
      | true => rw [List.mem_singleton.mp hw]; exact e2
      | false => cases hw
  | col n s sp sd ks =>
    rw [Bx.ok] at h
    obtain ⟨h1, h2, h3, h4, h5, h6, h7⟩ := h
    refine ⟨?_, by simp [Bx.ws]⟩
    have a := h2.wl
    have c := wl_num h3 h4
    have d := h1.wl
    have e : WrdL "column" := by decide +kernel
    have f := wl_lean sd h5
    intro w hw
    rw [Bx.ws] at hw
    rcases List.mem_cons.mp hw with rfl | hw
    · exact e
    · rcases List.mem_cons.mp hw with rfl | hw
      · exact d
      · rcases List.mem_append.mp (show w ∈ [numS s.wish, numS s.least, szS s.most, numS s.grow, numS s.shrink] ++ [numS sp, sd] from hw) with z | z
        · exact a w z
        · rcases List.mem_cons.mp z with rfl | z
          · exact c
          · rw [List.mem_singleton.mp z]; exact f
theorem Bx.ws_ne (b : Bx) : b.ws ≠ [] := by cases b <;> simp [Bx.ws]
theorem blank_tl : (" " : Str).cps.toList = [32] := by decide +kernel
theorem Bx.split_row {b : Bx} (h : b.ok) : Txt.split b.rowS " " = b.ws :=
  split_join (s := 32) (S := []) blank_tl (by decide +kernel) b.ws_ne fun p hp z => by have := (b.ws_ok h).1 p hp |>.1 32 z; omega
theorem Bx.rowS_len {b : Bx} (h : b.ok) : b.rowS.length ≤ 90 := by
  obtain ⟨h1, h2⟩ := b.ws_ok h
  have := joinL_len (S := [32]) (n := 8) (ps := b.ws.map tl) fun p hp => by
    obtain ⟨w, hw, rfl⟩ := List.mem_map.mp hp
    have := (h1 w hw).2
    rw [len_cps] at this
    exact this
  rw [List.length_map] at this
  rw [Bx.rowS, len_cps, join_tl, blank_tl]
  have : b.ws.length * (8 + [32].length) ≤ 90 := by
    show b.ws.length * 9 ≤ 90
    omega
  omega
/-- a row of such a depth: blanks, then another sign; no line's end -/
structure RowT (t : Str) : Prop where
  hd : ∃ c, t.cps.toList[0]? = some c ∧ 33 ≤ c
  nl : ∀ c ∈ t.cps.toList, 32 ≤ c ∧ c < 128
  len : t.length ≤ 90
theorem Bx.rowT {b : Bx} (h : b.ok) : RowT b.rowS := by
  refine ⟨?_, fun c hc => ?_, b.rowS_len h⟩
  · have k : ∀ (w : Str) (r : List Str) (c : Nat), b.ws = w :: r → w.cps.toList[0]? = some c → (b.rowS).cps.toList[0]? = some c := fun w r c e hc => by
      rw [Bx.rowS, join_tl, e]
      exact joinL_head hc _
    cases b with
    | box => exact ⟨98, k "box" _ _ rfl (by decide +kernel), by decide⟩
    | row => exact ⟨114, k "row" _ _ rfl (by decide +kernel), by decide⟩
    | col => exact ⟨99, k "column" _ _ rfl (by decide +kernel), by decide⟩
  · rw [Bx.rowS, join_tl, blank_tl] at hc
    rcases joinL_mem hc with z | ⟨p, hp, z⟩
    · rw [List.mem_singleton.mp z]; decide
    · obtain ⟨w, hw, rfl⟩ := List.mem_map.mp hp
      have := ((b.ws_ok h).1 w hw).1 c z
      omega
def bl (d : Nat) : Str := repS "  " d
theorem bl_tl (d : Nat) : (bl d).cps.toList = List.replicate (2 * d) 32 := by
  have e : ("  " : Str).cps.toList = [32, 32] := by decide +kernel
  unfold bl repS
  rw [e]
  show (List.replicate d [32, 32]).flatten = _
  induction d with
  | zero => rfl
  | succ d ih => rw [List.replicate_succ, List.flatten_cons, ih, show 2 * (d + 1) = 2 * d + 1 + 1 by omega, List.replicate_succ, List.replicate_succ]; rfl
theorem str_ext {x y : Str} (h : x.cps.toList = y.cps.toList) : x = y := ext_tl h
theorem app_tl (x y : Str) : (x ++ y).cps.toList = x.cps.toList ++ y.cps.toList := tl_append x y
theorem bl_succ (d : Nat) : bl d ++ "  " = bl (d + 1) := by
  apply str_ext
  have e : ("  " : Str).cps.toList = [32, 32] := by decide +kernel
  rw [app_tl, bl_tl, bl_tl, e, show 2 * (d + 1) = 2 * d + 2 by omega, show [32, 32] = List.replicate 2 32 from rfl, List.replicate_append_replicate]
theorem bl_zero : bl 0 = "" := rfl
theorem bl_len (d : Nat) : (bl d).length = 2 * d := by rw [len_cps, bl_tl, List.length_replicate]
theorem pre_rep {t : List Nat} {c : Nat} (h : t[0]? = some c) (hc : 33 ≤ c) : ∀ n m : Nat, (List.replicate n 32).isPrefixOf (List.replicate m 32 ++ t) = decide (n ≤ m)
  | 0, m => by simp
  | n + 1, 0 => by
    cases t with
    | nil => cases h
    | cons a t =>
      cases h
      rw [List.replicate_succ, List.replicate_zero, List.nil_append, List.isPrefixOf_cons₂]
      have : (32 == c) = false := by
        rw [beq_eq_false_iff_ne]; omega
      rw [this]
      simp
  | n + 1, m + 1 => by
    rw [List.replicate_succ, List.replicate_succ, List.cons_append, List.isPrefixOf_cons₂, pre_rep h hc n m]
    simp
theorem starts_bl {e d : Nat} {t : Str} (h : RowT t) : Txt.startswith (bl e ++ t) (bl d) = decide (d ≤ e) := by
  obtain ⟨c, h1, h2⟩ := h.hd
  rw [starts_eq]
  show ((bl d).cps.toList).isPrefixOf ((bl e ++ t).cps.toList) = _
  rw [app_tl, bl_tl, bl_tl, pre_rep h1 h2]
  exact decide_eq_decide.mpr (by omega)
theorem starts_bl1 {e d : Nat} {t : Str} (h : RowT t) : Txt.startswith (bl e ++ t) (bl d ++ " ") = decide (d < e) := by
  obtain ⟨c, h1, h2⟩ := h.hd
  rw [starts_eq]
  show ((bl d ++ " ").cps.toList).isPrefixOf ((bl e ++ t).cps.toList) = _
  rw [app_tl, app_tl, bl_tl, bl_tl, blank_tl, show [32] = List.replicate 1 32 from rfl, List.replicate_append_replicate, pre_rep h1 h2]
  exact decide_eq_decide.mpr (by omega)

end Wd

end

section
set_option maxRecDepth 100000
set_option maxHeartbeats 4000000
namespace Wd
open PySem PySem.Spec L2
open TL
mutual
def Bx.rows : Bx → Nat → List Str
  | .box n s h, d => [bl d ++ Bx.rowS (.box n s h)]
  | .row n s sp sd go ks, d => (bl d ++ Bx.rowS (.row n s sp sd go ks)) :: Bx.rowss ks (d + 1)
  | .col n s sp sd ks, d => (bl d ++ Bx.rowS (.col n s sp sd ks)) :: Bx.rowss ks (d + 1)
def Bx.rowss : List Bx → Nat → List Str
  | [], _ => []
  | b :: bs, d => b.rows d ++ Bx.rowss bs d
end
theorem Bx.rowss_eq : ∀ (bs : List Bx) (d : Nat), Bx.rowss bs d = (bs.map fun k => k.rows d).flatten
  | [], _ => by rw [Bx.rowss]; rfl
  | b :: bs, d => by rw [Bx.rowss, Bx.rowss_eq bs d]; rfl
theorem Bx.rows_eq (b : Bx) (d : Nat) : b.rows d = (bl d ++ b.rowS) :: (b.kids.map fun k => k.rows (d + 1)).flatten := by
  cases b with
  | box => rw [Bx.rows]; rfl
  | row => rw [Bx.rows, Bx.rowss_eq]; rfl
  | col => rw [Bx.rows, Bx.rowss_eq]; rfl
mutual
theorem Bx.rows_len : ∀ (b : Bx) (d : Nat), (b.rows d).length = b.names.length
  | .box n s h, d => by rw [Bx.rows, Bx.names]; simp
  | .row n s sp sd go ks, d => by rw [Bx.rows, Bx.names, List.length_cons, List.length_cons, Bx.rowss_len ks]
  | .col n s sp sd ks, d => by rw [Bx.rows, Bx.names, List.length_cons, List.length_cons, Bx.rowss_len ks]
theorem Bx.rowss_len : ∀ (bs : List Bx) (d : Nat), (Bx.rowss bs d).length = (Bx.namess bs).length
  | [], d => by simp [Bx.rowss, Bx.namess]
  | b :: bs, d => by rw [Bx.rowss, Bx.namess, List.length_append, List.length_append, Bx.rows_len b, Bx.rowss_len bs]
end
/-- a row of a text -/
def IsRow (m : Nat) (r : Str) : Prop := ∃ e t, r = bl e ++ t ∧ RowT t ∧ e ≤ m
mutual
theorem Bx.rows_row : ∀ (b : Bx) (d m : Nat), b.ok → d + b.dep ≤ m + 1 → ∀ r ∈ b.rows d, IsRow m r
  | .box n s h, d, m, ok, hd, r, hr => by
    rw [Bx.rows] at hr
    rw [Bx.dep] at hd
    exact ⟨d, _, List.mem_singleton.mp hr, Bx.rowT ok, by omega⟩
  | .row n s sp sd go ks, d, m, ok, hd, r, hr => by
    rw [Bx.rows] at hr
    rw [Bx.dep] at hd
    rcases List.mem_cons.mp hr with z | z
    · exact ⟨d, _, z, Bx.rowT ok, by omega⟩
    · rw [Bx.ok] at ok
      exact Bx.rowss_row ks (d + 1) m ok.2.2.2.2.2.2 (by omega) r z
  | .col n s sp sd ks, d, m, ok, hd, r, hr => by
    rw [Bx.rows] at hr
    rw [Bx.dep] at hd
    rcases List.mem_cons.mp hr with z | z
    · exact ⟨d, _, z, Bx.rowT ok, by omega⟩
    · rw [Bx.ok] at ok
      exact Bx.rowss_row ks (d + 1) m ok.2.2.2.2.2.2 (by omega) r z
theorem Bx.rowss_row : ∀ (bs : List Bx) (d m : Nat), Bx.oks bs → d + Bx.deps bs ≤ m + 1 → ∀ r ∈ Bx.rowss bs d, IsRow m r
  | [], d, m, _, _, r, hr => by rw [Bx.rowss] at hr; cases hr
  | b :: bs, d, m, ok, hd, r, hr => by
    rw [Bx.rowss] at hr
    rw [Bx.oks] at ok
    rw [Bx.deps] at hd
    rcases List.mem_append.mp hr with z | z
    · exact Bx.rows_row b d m ok.1 (by omega) r z
    · exact Bx.rowss_row bs d m ok.2 (by omega) r z
end
theorem IsRow.len {m : Nat} {r : Str} (h : IsRow m r) : r.length ≤ 2 * m + 90 := by
  obtain ⟨e, t, rfl, h1, h2⟩ := h
  have := h1.len
  have e1 : (bl e ++ t).length = (bl e).length + t.length := by rw [len_cps, app_tl, List.length_append, ← len_cps, ← len_cps]
  rw [e1, bl_len]
  omega
theorem IsRow.nl {m : Nat} {r : Str} (h : IsRow m r) : 10 ∉ r.cps.toList := fun z => by
  obtain ⟨e, t, rfl, h1, h2⟩ := h
  rw [app_tl, bl_tl] at z
  rcases List.mem_append.mp z with z | z
  · have := (List.mem_replicate.mp z).2; omega
  · have := h1.nl _ z; omega
theorem IsRow.sok {m : Nat} {r : Str} (h : IsRow m r) : PyData.strOk r = true := ascii_ok fun c z => by
  obtain ⟨e, t, rfl, h1, h2⟩ := h
  rw [app_tl, bl_tl] at z
  rcases List.mem_append.mp z with z | z
  · have := (List.mem_replicate.mp z).2; omega
  · exact (h1.nl _ z).2
theorem IsRow.strip {m : Nat} {r : Str} (h : IsRow m r) : Txt.stripChars r " " ≠ "" := by
  obtain ⟨e, t, rfl, ⟨⟨c, h1, h2⟩, _, _⟩, _⟩ := h
  refine strip_some (c := c) ?_ ?_
  · show c ∈ (bl e ++ t).cps.toList
    rw [app_tl]
    exact List.mem_append_right _ (List.mem_of_getElem? h1)
  · cases z : (" " : Str).cps.contains c with
    | false => rfl
    | true =>
      have := Array.contains_iff_mem.mp z
      have := Array.mem_def.mp this
      rw [blank_tl] at this
      have := List.mem_singleton.mp this
      omega
/-- rows as one text -/
def textOf (rows : List Str) : Str := Txt.join "" (rows.map fun r : Str => r ++ ("\n" : Str))
theorem nl_tl : ("\n" : Str).cps.toList = [10] := by decide +kernel
theorem join_nl : ∀ rows : List (List Nat), joinL [] (rows.map fun r => r ++ [10]) = joinL [10] (rows ++ [[]])
  | [] => rfl
  | [r] => by simp [joinL]
  | r :: q :: rs => by
    have ih := join_nl (q :: rs)
    show (r ++ [10]) ++ ([] ++ joinL [] ((q :: rs).map fun r => r ++ [10])) = r ++ ([10] ++ joinL [10] (q :: rs ++ [[]]))
    rw [ih]
    simp
theorem text_nl (rows : List Str) : textOf rows = Txt.join "\n" (rows ++ ([""] : List Str)) := by
  apply str_ext
  unfold textOf
  have e : ("" : Str).cps.toList = [] := rfl
  rw [join_tl, join_tl, nl_tl, e, List.map_map, List.map_append]
  have := join_nl (rows.map tl)
  rw [List.map_map] at this
  rw [show (tl ∘ fun r : Str => r ++ ("\n" : Str)) = ((fun r => r ++ [10]) ∘ tl) from funext fun r => by show (r ++ ("\n" : Str)).cps.toList = r.cps.toList ++ [10]; rw [app_tl, nl_tl]]
  exact this
theorem text_split {rows : List Str} (h : ∀ r ∈ rows, 10 ∉ r.cps.toList) : Txt.split (textOf rows) "\n" = rows ++ ([""] : List Str) := by
  rw [text_nl]
  refine split_join (s := 10) (S := []) nl_tl (by decide +kernel) (by simp) fun p hp => ?_
  rcases List.mem_append.mp hp with z | z
  · exact h p z
  · rw [List.mem_singleton.mp z]; exact List.not_mem_nil
theorem text_len {rows : List Str} {n : Nat} (h : ∀ r ∈ rows, r.length ≤ n) : (textOf rows).length ≤ rows.length * (n + 1) := by
  unfold textOf
  rw [len_cps, join_tl, show ("" : Str).cps.toList = [] from rfl]
  have := joinL_len (S := []) (n := n + 1) (ps := (rows.map fun r : Str => r ++ ("\n" : Str)).map tl) fun p hp => by
    obtain ⟨w, hw, rfl⟩ := List.mem_map.mp hp
    obtain ⟨r, hr, rfl⟩ := List.mem_map.mp hw
    have := h r hr
    rw [len_cps] at this
    show ((r ++ ("\n" : Str)).cps.toList).length ≤ _
    rw [app_tl, nl_tl, List.length_append]
    simp
    omega
  rw [List.length_map, List.length_map] at this
  simpa using this
def isKid (rows : List Str) (i : Nat) (a : Str) : Bool := match rows[i]? with
  | none => false
  | some r => Txt.startswith r a && !Txt.startswith r (a ++ " ")
theorem isKid_at {rows : List Str} {i e d : Nat} {t : Str} (h : rows[i]? = some (bl e ++ t)) (ht : RowT t) : isKid rows i (bl d) = decide (e = d) := by
  unfold isKid
  rw [h]
  show (Txt.startswith (bl e ++ t) (bl d) && !Txt.startswith (bl e ++ t) (bl d ++ " ")) = _
  rw [starts_bl ht, starts_bl1 ht]
  by_cases q : e = d
  · subst q; simp
  · rw [decide_eq_false q]
    by_cases z : d ≤ e
    · rw [decide_eq_true z, decide_eq_true (show d < e by omega)]; rfl
    · rw [decide_eq_false z]; rfl
/-- the next row stands no deeper -/
def Stop (d : Nat) (post : List Str) : Prop := ∀ r, post[0]? = some r → ∃ e t, r = bl e ++ t ∧ RowT t ∧ e ≤ d
theorem isKid_stop {pre post : List Str} {d : Nat} (h : Stop d post) : isKid (pre ++ post) pre.length (bl (d + 1)) = false := by
  cases post with
  | nil =>
    unfold isKid
    rw [List.append_nil, List.getElem?_eq_none (Nat.le_refl _)]
  | cons r post =>
    obtain ⟨e, t, rfl, h1, h2⟩ := h r rfl
    rw [isKid_at (e := e) (t := t) (by rw [List.getElem?_append_right (Nat.le_refl _), Nat.sub_self]; rfl) h1]
    exact decide_eq_false (by omega)
theorem isKid_row {pre post : List Str} {b : Bx} {d : Nat} (ok : b.ok) : isKid (pre ++ b.rows d ++ post) pre.length (bl d) = true := by
  rw [Bx.rows_eq]
  rw [isKid_at (e := d) (t := b.rowS) (by rw [List.append_assoc, List.getElem?_append_right (Nat.le_refl _), Nat.sub_self]; rfl) (Bx.rowT ok)]
  exact decide_eq_true rfl
/-- the rows of the first kids -/
def kidRows (b : Bx) (d j : Nat) : List Str := ((b.kids.take j).map fun k => k.rows (d + 1)).flatten
theorem kidRows_succ {b kd : Bx} {d j : Nat} (h : b.kids[j]? = some kd) : kidRows b d (j + 1) = kidRows b d j ++ kd.rows (d + 1) := by
  unfold kidRows
  rw [List.take_succ, h]
  simp
theorem rows_cut {b kd : Bx} {d j : Nat} (h : b.kids[j]? = some kd) : b.rows d = ((bl d ++ b.rowS) :: kidRows b d j) ++ kd.rows (d + 1) ++ ((b.kids.drop (j + 1)).map fun k => k.rows (d + 1)).flatten := by
  rw [Bx.rows_eq, List.cons_append, List.cons_append]
  congr 1
  rw [← kidRows_succ h, kidRows, ← List.flatten_append, ← List.map_append, List.take_append_drop]
theorem rows_all (b : Bx) (d : Nat) : b.rows d = (bl d ++ b.rowS) :: kidRows b d b.kids.length := by
  rw [Bx.rows_eq, kidRows, List.take_length]
theorem stop_next {b : Bx} {d j : Nat} {post : List Str} (ok : b.ok) (h : Stop d post) : Stop (d + 1) (((b.kids.drop (j + 1)).map fun k => k.rows (d + 1)).flatten ++ post) := by
  intro r hr
  cases hk : b.kids.drop (j + 1) with
  | nil =>
    rw [hk] at hr
    obtain ⟨e, t, h1, h2, h3⟩ := h r hr
    exact ⟨e, t, h1, h2, by omega⟩
  | cons k ks =>
    have km : k ∈ b.kids := List.mem_of_mem_drop (by rw [hk]; exact List.mem_cons_self)
    rw [hk, List.map_cons, List.flatten_cons, Bx.rows_eq] at hr
    cases hr
    exact ⟨d + 1, k.rowS, rfl, Bx.rowT ((Bx.ok_kids ok).2 k km), Nat.le_refl _⟩
theorem cut_bl (d : Nat) (t : Str) : cutS (bl d ++ t) (some ((bl d).length : Int)) none = t := by
  apply str_ext
  have e1 : (bl d ++ t).length = 2 * d + t.length := by rw [len_cps, app_tl, List.length_append, bl_tl, List.length_replicate, ← len_cps]
  have e2 : HT.sIx (bl d ++ t).length 0 (some ((bl d).length : Int)) = 2 * d := by
    rw [HT.sIx_nat, bl_len, e1]
    omega
  have e3 : HT.sIx (bl d ++ t).length (bl d ++ t).length none = 2 * d + t.length := by rw [e1]; rfl
  unfold cutS
  rw [e2, e3, app_tl, bl_tl]
  show List.take _ (List.drop _ _) = _
  rw [List.drop_append_of_le_length (by rw [List.length_replicate]; exact Nat.le_refl _)]
  simp
  rw [List.take_of_length_le]
  rw [len_cps]; exact Nat.le_refl _

end Wd

end

section
set_option maxRecDepth 100000
set_option maxHeartbeats 4000000
namespace Wd
open PySem PySem.Spec L2
open TL
theorem log_ok {m : Int} (h : 0 ≤ m) (h2 : m ≤ 1000) : m.natAbs.log2 < 1920 := by
  by_cases z : m = 0
  · subst z; decide +kernel
  · exact (Nat.log2_lt (by omega)).mpr (Nat.lt_of_lt_of_le (show m.natAbs < 2 ^ 10 by omega) (nat_pow_le (by decide)))
theorem S_size_text : FnS ["size"] ["size"] ["size"] ["str"] (defScope (topS 82)) := ⟨by decide +kernel⟩
def sp_size_text (u : Uni) : Sp := fun vs H Q _ => ∃ (o : Option Int), (∀ m, o = some m → 0 ≤ m ∧ m ≤ 1000) ∧ Pf [isOI o] (isS (szS o)) vs H Q
theorem jc_size_text {u : Uni} {N V G : List Str} {sc : Scope} {k l j : Nat} {X : Cx} {Z : Zn} {Γ : List Ty} {e0 : Expr} {pos p : Pos} {o : Option Int} (g : Good u N sc k X) (nm : Nm sc V G) (F : Callable u "size_text" l (sp_size_text u) []) (hl : Nat.ble l k = true) (hG : At G j "size_text") (ha : JA X Z Γ [e0] [isOI o]) (h1 : ∀ m, o = some m → 0 ≤ m ∧ m ≤ 1000) (hs : starEach [e0] X.env = (false, eval e0 X.env) :: starEach [] X.env) (hp : (backTo pos (starEach [] X.env)).any (·.1) = false) : J X Z Γ (.Call (.Name "size_text" p) [e0] [] pos) (isS (szS o)) :=
  j_call g F (Nat.le_of_ble_eq_true hl) (fun _ _ _ h => ⟨o, h1, h⟩) ha (nm.gl hG) hs hp
example : True := by
  k_with "call" => ((with_reducible apply jc_size_text g nm c_size_text); (· exact rfl); (· k_extra "at"); (· k_extra "ja"); (· k_extra "side"); (· exact rfl); (· exact rfl))
  trivial
theorem c_size_text {u : Uni} (bt : Bts u) (Df : Defd u "size_text" "size_text" (topS 82) []) : Callable u "size_text" 1 (sp_size_text u) [] := by
  refine fn_pure (k := 0) (ps := ["size"]) Df S_size_text.scope (fun f fd F => ⟨[], F.bindsN (fun _ _ _ _ _ _ us hl => match us, hl with | [_], _ => rfl), .nil⟩) ?_ (fun _ _ _ _ h => h)
  rintro vs H Q ⟨o, h1, h⟩
  refine ⟨_, _, rfl, h, fun X Z hM g hf => ?_⟩
  have S := S_size_text
  have nm := S.nm
  cases o with
  | none =>
    rw [show isOI none = isN from rfl]
    k_extra "ifT"
    k_extra "retB"
    rfl
  | some m =>
    rw [show isOI (some m) = isI m from rfl]
    obtain ⟨m1, m2⟩ := h1 m rfl
    have lg : m.natAbs.log2 < 1920 := log_ok m1 m2
    k_extra "skip"
    k_extra "ret"
    rfl
mutual
theorem Bx.ok_few : ∀ {b : Bx}, b.ok → b.few
  | .box _ _ _, _ => by rw [Bx.few]; trivial
  | .row _ _ _ _ _ ks, h => by
    rw [Bx.ok] at h
    rw [Bx.few]
    exact ⟨h.2.2.2.2.2.1, Bx.oks_few h.2.2.2.2.2.2⟩
  | .col _ _ _ _ ks, h => by
    rw [Bx.ok] at h
    rw [Bx.few]
    exact ⟨h.2.2.2.2.2.1, Bx.oks_few h.2.2.2.2.2.2⟩
theorem Bx.oks_few : ∀ {bs : List Bx}, Bx.oks bs → Bx.fews bs
  | [], _ => by rw [Bx.fews]; trivial
  | b :: bs, h => by
    rw [Bx.oks] at h
    rw [Bx.fews]
    exact ⟨Bx.ok_few h.1, Bx.oks_few h.2⟩
end
theorem words_sum {ws : List Str} (h : ∀ w ∈ ws, WrdL w) : (ws.map (·.length)).sum ≤ ws.length * 8 := by
  induction ws with
  | nil => exact Nat.zero_le _
  | cons w ws ih =>
    have := (h w (by simp)).2
    have := ih fun x hx => h x (List.mem_cons_of_mem _ hx)
    rw [List.map_cons, List.sum_cons, List.length_cons, Nat.succ_mul]
    omega
theorem words_fit {b : Bx} (h : b.ok) : (b.ws.map (·.length)).sum + b.ws.length * (" " : Str).length ≤ 16777216 := by
  obtain ⟨h1, h2⟩ := b.ws_ok h
  have := words_sum h1
  have e : (" " : Str).length = 1 := by decide +kernel
  rw [e]
  omega
def szL (s : Sz) : List (Option Int) := [some s.wish, some s.least, s.most, some s.grow, some s.shrink]
theorem szL_ok {s : Sz} (h : SzOk s) : ∀ o ∈ szL s, ∀ m, o = some m → 0 ≤ m ∧ m ≤ 1000 := by
  intro o ho m e
  have := h.g1
  have := h.s1
  simp only [szL, List.mem_cons, List.not_mem_nil, or_false] at ho
  rcases ho with rfl | rfl | rfl | rfl | rfl
  · cases e; exact ⟨h.wish0, h.w1⟩
  · cases e; exact ⟨h.l0, h.least1⟩
  · exact h.most m e
  · cases e; exact ⟨h.g0, by omega⟩
  · cases e; exact ⟨h.s0, by omega⟩
theorem S_row_of : FnS ["box", "tree", "words", "size"] ["box"] ["box", "tree", "words"] ["str"] (defScope (topS 83)) := ⟨by decide +kernel⟩
def sp_row_of (u : Uni) (c : Cl) : Sp := fun vs H Q _ => ∃ b : Bx, b.ok ∧ b.dep ≤ 6 ∧ Pf [isBx c u.K b] (isS b.rowS) vs H Q
theorem c_row_of {u : Uni} {c : Cl} (bt : Bts u) (bm : BxM u c) (tn : TreeN u c 6) (c_size_text : Callable u "size_text" 1 (sp_size_text u) []) (Df : Defd u "row_of" "row_of" (topS 83) []) : Callable u "row_of" 8 (sp_row_of u c) [] := by
  refine fn_pure (k := 7) (ps := ["box"]) Df S_row_of.scope (fun f fd F => ⟨[], F.bindsN (fun _ _ _ _ _ _ us hl => match us, hl with | [_], _ => rfl), .nil⟩) ?_ (fun _ _ _ _ h => h)
  rintro vs H Q ⟨b, ok, hd, h⟩
  refine ⟨_, _, rfl, h, fun X Z hM g hf => ?_⟩
  have S := S_row_of
  have nm := S.nm
  have hw := Bx.ok_few ok
  have fit := words_fit ok
  apply tr_let g hf S (P := isTr u.K b)
  · k_extra "at"
  · k_extra "at"
  · apply jm_tree g tn (Nat.le_refl _) hd hw
    · k_extra "j"
    · exact rfl
  · exact rfl
  · exact rfl
  cases b with
  | box nb s hi =>
    rw [Bx.ok] at ok
    obtain ⟨k1, k2, k3, k4⟩ := ok
    have lg := log_ok k3 k4
    rw [isTr]
    apply tr_letN g hf S (C := ownL ([isS "box", isS nb] ++ (szL s).map fun o => isS (szS o)))
    · k_extra "at"
    · k_extra "at"
    · apply jn_cat
      · apply j_lst
        · k_extra "ja"
        · exact Nat.le_of_ble_eq_true rfl
      · refine j_comp (jn_map g (xs := szL s) (A := isOI) (B := fun o => isS (szS o)) [("size", 3)] (ji_tup g (P := isSz u.K s) (by k_extra "j") tup_Sz) (by decide +kernel) (show 5 ≤ 1000 by decide) (fun o => [(3, isOI o)]) (by simp) ?_ (fun _ => rfl))
        intro o ho G X' g
        have nm := nmOf g ["size"] ["size_text"] (by decide +kernel)
        have oo := szL_ok k2 o ho
        refine ⟨by k_extra "jgo", ?_⟩
        k_extra "j"
      · exact (show 7 ≤ 1000 by decide)
    · exact rfl
    · exact rfl
    refine tr_frz 2 rfl own_L ?_
    k_extra "ifT"
    apply tr_retB
    apply j_join g (ss := (Bx.box nb s hi).ws)
    · k_extra "j"
    · k_extra "j"
    · exact lst_L
    · exact fit
    · exact rfl
    · exact rfl
    · exact rfl
  | row nb s sp sd go ks =>
    rw [Bx.ok] at ok
    obtain ⟨k1, k2, k3, k4, k5, k6, k7⟩ := ok
    have lg := log_ok k3 k4
    rw [isTr]
    apply tr_letN g hf S (C := ownL ([isS "row", isS nb] ++ (szL s).map fun o => isS (szS o)))
    · k_extra "at"
    · k_extra "at"
    · apply jn_cat
      · apply j_lst
        · k_extra "ja"
        · exact Nat.le_of_ble_eq_true rfl
      · refine j_comp (jn_map g (xs := szL s) (A := isOI) (B := fun o => isS (szS o)) [("size", 3)] (ji_tup g (P := isSz u.K s) (by k_extra "j") tup_Sz) (by decide +kernel) (show 5 ≤ 1000 by decide) (fun o => [(3, isOI o)]) (by simp) ?_ (fun _ => rfl))
        intro o ho G X' g
        have nm := nmOf g ["size"] ["size_text"] (by decide +kernel)
        have oo := szL_ok k2 o ho
        refine ⟨by k_extra "jgo", ?_⟩
        k_extra "j"
      · exact (show 7 ≤ 1000 by decide)
    · exact rfl
    · exact rfl
    k_extra "skip"
    k_extra "extend"
    have hb : (Bx.row nb s sp sd go ks).isB = false := rfl
    cases go with
    | true =>
      apply tr_ifT
      · apply JT.to
        · k_extra "t"
        · rfl
      k_extra "append"
      refine tr_end ?_
      refine tr_frz 2 rfl own_L ?_
      apply tr_retP
      apply j_join g (ss := (Bx.row nb s sp sd true ks).ws)
      · k_extra "j"
      · k_extra "j"
      · exact lst_L
      · exact fit
      · exact rfl
      · exact rfl
      · exact rfl
    | false =>
      apply tr_skip
      · apply JT.to
        · k_extra "t"
        · rfl
      refine tr_frz 2 rfl own_L ?_
      apply tr_retP
      apply j_join g (ss := (Bx.row nb s sp sd false ks).ws)
      · k_extra "j"
      · k_extra "j"
      · exact lst_L
      · exact fit
      · exact rfl
      · exact rfl
      · exact rfl
  | col nb s sp sd ks =>
    rw [Bx.ok] at ok
    obtain ⟨k1, k2, k3, k4, k5, k6, k7⟩ := ok
    have lg := log_ok k3 k4
    rw [isTr]
    apply tr_letN g hf S (C := ownL ([isS "column", isS nb] ++ (szL s).map fun o => isS (szS o)))
    · k_extra "at"
    · k_extra "at"
    · apply jn_cat
      · apply j_lst
        · k_extra "ja"
        · exact Nat.le_of_ble_eq_true rfl
      · refine j_comp (jn_map g (xs := szL s) (A := isOI) (B := fun o => isS (szS o)) [("size", 3)] (ji_tup g (P := isSz u.K s) (by k_extra "j") tup_Sz) (by decide +kernel) (show 5 ≤ 1000 by decide) (fun o => [(3, isOI o)]) (by simp) ?_ (fun _ => rfl))
        intro o ho G X' g
        have nm := nmOf g ["size"] ["size_text"] (by decide +kernel)
        have oo := szL_ok k2 o ho
        refine ⟨by k_extra "jgo", ?_⟩
        k_extra "j"
      · exact (show 7 ≤ 1000 by decide)
    · exact rfl
    · exact rfl
    k_extra "skip"
    k_extra "extend"
    have hb : (Bx.col nb s sp sd ks).isB = false := rfl
    apply tr_skip
    · apply JT.to
      · k_extra "t"
      · rfl
    refine tr_frz 2 rfl own_L ?_
    apply tr_retP
    apply j_join g (ss := (Bx.col nb s sp sd ks).ws)
    · k_extra "j"
    · k_extra "j"
    · exact lst_L
    · exact fit
    · exact rfl
    · exact rfl
    · exact rfl

end Wd

end

section
set_option maxRecDepth 100000
set_option maxHeartbeats 4000000
namespace Wd
open PySem PySem.Spec L2
open TL
theorem two_len : ("  " : Str).length = 2 := by decide +kernel
theorem bl_app {d : Nat} (h : d ≤ 10) (s : Str) (hs : s.length ≤ 1000) : (bl d).length + s.length ≤ sizeLine := by
  rw [bl_len, sizeLine_eq]; omega
theorem kidRows_le (b : Bx) (d j : Nat) : (kidRows b d j).length ≤ b.names.length := by
  rw [← b.rows_len d, rows_all b d, List.length_cons]
  have : (kidRows b d j).length ≤ (kidRows b d b.kids.length).length := by
    unfold kidRows
    rw [List.take_length]
    conv => rhs; rw [← List.take_append_drop j b.kids]
    rw [List.map_append, List.flatten_append, List.length_append]
    omega
  omega
theorem S_rows_of : FnS ["box", "ahead", "found", "kid"] ["box", "ahead"] ["box", "ahead", "found", "kid"] ["row_of", "rows_of"] (defScope (topS 84)) := ⟨by decide +kernel⟩
def sp_rows_of (u : Uni) (c : Cl) (n : Nat) : Sp := fun vs H Q _ => ∃ (b : Bx) (d : Nat), b.ok ∧ b.dep ≤ n ∧ d + b.dep ≤ 6 ∧ b.names.length ≤ 40 ∧ Pf [isBx c u.K b, isS (bl d)] (isL ((b.rows d).map isS)) vs H Q
theorem c_rows_of {u : Uni} {c : Cl} (bt : Bts u) (bm : BxM u c) (c_row_of : Callable u "row_of" 8 (sp_row_of u c) []) (Df : Defd u "rows_of" "rows_of" (topS 84) []) : ∀ n, Callable u "rows_of" (n + 8) (sp_rows_of u c n) [] := by
  have hb : ∀ f fd, FunD u.K "rows_of" "rows_of" (defArgs (topS 84)) (defBody (topS 84)) (defScope (topS 84)) [] [] f fd → ∃ ds, Binds u.K fd ["box", "ahead"] ds ∧ Vals [] ds := fun f fd F => ⟨[], F.bindsN (fun _ _ _ _ _ _ us hl => match us, hl with | [_, _], _ => rfl), .nil⟩
  intro n
  induction n with
  | zero => exact fn_pure (k := 7) (ps := ["box", "ahead"]) Df S_rows_of.scope hb (fun vs H Q ⟨b, d, _, h, _⟩ => absurd h (by have := b.dep_pos; omega)) (fun _ _ _ _ h => h)
  | succ n ih =>
    refine fn_pure (k := n + 8) (ps := ["box", "ahead"]) Df S_rows_of.scope hb ?_ (fun _ _ _ _ h => h)
    rintro vs H Q ⟨b, d, ok, hd, h6, h40, h⟩
    refine ⟨_, _, rfl, h, fun X Z hM g hf => ?_⟩
    have S := S_rows_of
    have nm := S.nm
    have hk1 : Nat.ble 1 (n + 8) = true := Nat.ble_eq_true_of_le (by omega)
    have dp := b.dep_pos
    have l1 : (bl d).length + b.rowS.length ≤ sizeLine := bl_app (by omega) _ (by have := Bx.rowS_len ok; omega)
    have l2 : (bl d).length + ("  " : Str).length ≤ sizeLine := bl_app (by omega) _ (by decide +kernel)
    apply tr_letN g hf S (C := ownL [isS (bl d ++ b.rowS)])
    · k_extra "at"
    · k_extra "at"
    · apply jn_lst
      · apply ja_cons
        · apply j_bin
          · k_extra "j"
          · refine j_call g c_row_of (by omega) (ret := isS b.rowS) (Ps := [isBx c u.K b]) (fun vs H Q h => ⟨b, ok, by omega, h⟩) ?_ (nm.gl (by k_extra "at")) rfl rfl
            k_extra "ja"
          · exact bin_addS l1
        · k_extra "ja"
        · exact rfl
      · exact Nat.le_of_ble_eq_true rfl
    · exact rfl
    · exact rfl
    refine tr_forD g (Ps := b.kids.map (isBx c u.K)) (ji_list g (P := isL (b.kids.map (isBx c u.K))) (jm_kids g bm hk1 (by k_extra "j") rfl) lst_L) (fun i (a : List Str) => [.val (isBx c u.K b), .val (isS (bl d)), .own true (ownL (a.map isS)), .any])
      (fun i a => a = (bl d ++ b.rowS) :: kidRows b d i) [bl d ++ b.rowS] rfl (by k_extra "sub") ?_ ?_ (fun _ => rfl)
    · rintro i P a G hP rfl
      obtain ⟨kd, hr, rfl⟩ := getElem_map hP
      have km := List.mem_of_getElem? hr
      have dk := Bx.dep_kids hd kd km
      have dk2 := Bx.dep_kids (n := b.dep - 1) (by omega) kd km
      have ks40 := names_kid km
      have ft := kidRows_le b d (i + 1)
      rw [kidRows_succ hr, List.length_append] at ft
      have ext : (((bl d ++ b.rowS) :: kidRows b d i).map isS).length + ((kd.rows (d + 1)).map isS).length ≤ 1000 := by rw [List.length_map, List.length_cons, List.length_map]; omega
      refine ⟨_, by k_extra "jg", ?_⟩
      apply tr_extendA g hf S
      · k_extra "at"
      · k_extra "at"
      · exact rfl
      · refine j_call g ih (Nat.le_refl _) (ret := isL ((kd.rows (d + 1)).map isS)) (Ps := [isBx c u.K kd, isS (bl (d + 1))]) (fun vs H Q h => ⟨kd, d + 1, (Bx.ok_kids ok).2 kd km, dk, by omega, by omega, h⟩) ?_ (nm.gl (by k_extra "at")) rfl rfl
        apply ja_cons
        · k_extra "j"
        · apply ja_cons
          · apply J.to
            · k_extra "j"
            · rw [bl_succ]
          · k_extra "ja"
          · exact rfl
        · exact rfl
      · exact ext
      refine tr_turnD _ rfl rfl ?_
      rw [kidRows_succ hr, ← List.cons_append, List.map_append]
      k_extra "sub"
    · rintro a rfl
      rw [List.length_map, ← rows_all]
      refine tr_frz 2 rfl own_L ?_
      k_extra "ret"
      rfl
theorem rows_fit {rows : List Str} {m : Nat} (h : ∀ r ∈ rows, IsRow m r) (hm : m ≤ 10) (hl : rows.length ≤ 1000) : ((rows.map fun r : Str => r ++ ("\n" : Str)).map (·.length)).sum + (rows.map fun r : Str => r ++ ("\n" : Str)).length * ("" : Str).length ≤ 16777216 := by
  have e : ("" : Str).length = 0 := rfl
  have : ∀ rows : List Str, (∀ r ∈ rows, IsRow m r) → ((rows.map fun r : Str => r ++ ("\n" : Str)).map (·.length)).sum ≤ rows.length * 120 := by
    intro rows
    induction rows with
    | nil => intro _; exact Nat.zero_le _
    | cons r rs ih =>
      intro h
      have h1 := (h r (by simp)).len
      have h2 := ih fun x hx => h x (List.mem_cons_of_mem _ hx)
      have e1 : (r ++ ("\n" : Str)).length = r.length + 1 := by rw [len_cps, app_tl, List.length_append, nl_tl, ← len_cps]; rfl
      rw [List.map_cons, List.map_cons, List.sum_cons, List.length_cons, Nat.succ_mul]
      show (r ++ ("\n" : Str)).length + _ ≤ _
      rw [e1]
      omega
  have := this rows h
  rw [e]
  omega
/-- "".join([row + "\n" for row in rows]) -/
theorem S_written : FnS ["box", "row"] ["box"] ["box"] ["rows_of"] (defScope (topS 85)) := ⟨by decide +kernel⟩
def sp_written (u : Uni) (c : Cl) : Sp := fun vs H Q _ => ∃ b : Bx, b.ok ∧ b.dep ≤ 6 ∧ b.names.length ≤ 40 ∧ Pf [isBx c u.K b] (isS (textOf (b.rows 0))) vs H Q
theorem c_written {u : Uni} {c : Cl} (bt : Bts u) (c_rows_of : Callable u "rows_of" 14 (sp_rows_of u c 6) []) (Df : Defd u "written" "written" (topS 85) []) : Callable u "written" 15 (sp_written u c) [] := by
  refine fn_pure (k := 14) (ps := ["box"]) Df S_written.scope (fun f fd F => ⟨[], F.bindsN (fun _ _ _ _ _ _ us hl => match us, hl with | [_], _ => rfl), .nil⟩) ?_ (fun _ _ _ _ h => h)
  rintro vs H Q ⟨b, ok, hd, h40, h⟩
  refine ⟨_, _, rfl, h, fun X Z hM g hf => ?_⟩
  have S := S_written
  have nm := S.nm
  have rws := b.rows_row 0 6 ok (by omega)
  have rl : (b.rows 0).length ≤ 40 := by rw [b.rows_len]; exact h40
  apply tr_retP
  apply j_join g (ss := (b.rows 0).map fun r : Str => r ++ ("\n" : Str)) (P := isL (((b.rows 0).map fun r : Str => r ++ ("\n" : Str)).map isS))
  · k_extra "j"
  · rw [List.map_map]
    refine j_comp (jn_map g (xs := b.rows 0) (A := isS) (B := isS ∘ fun r : Str => r ++ ("\n" : Str)) [("row", 1)] (ji_list g (P := isL ((b.rows 0).map isS)) ?_ lst_L) (by decide +kernel) (by omega) (fun r => [(1, isS r)]) (by simp) ?_ (fun _ => rfl))
    · refine j_call g c_rows_of (Nat.le_refl _) (ret := isL ((b.rows 0).map isS)) (Ps := [isBx c u.K b, isS (bl 0)]) (fun vs H Q h => ⟨b, 0, ok, hd, by omega, h40, h⟩) ?_ (nm.gl (by k_extra "at")) rfl rfl
      apply ja_cons
      · k_extra "j"
      · apply ja_cons
        · exact J.to j_str rfl
        · k_extra "ja"
        · exact rfl
      · exact rfl
    · intro r hr G X' g
      have nm := nmOf g ["row"] [] (by decide +kernel)
      have l1 : r.length + ("\n" : Str).length ≤ sizeLine := by
        have := (rws r hr).len
        have e : ("\n" : Str).length = 1 := by decide +kernel
        rw [e, sizeLine_eq]; omega
      refine ⟨by k_extra "jgo", ?_⟩
      apply J.to
      · k_extra "j"
      · rfl
  · exact lst_L
  · exact rows_fit rws (by omega) (by omega)
  · exact rfl
  · exact rfl
  · exact rfl

end Wd

end

section
set_option maxRecDepth 100000
set_option maxHeartbeats 4000000
namespace Wd
open PySem PySem.Spec L2
open TL
theorem num_ne_dash {m : Int} (h : 0 ≤ m) : numS m ≠ "-" := fun z => by
  have e := numS_tl h
  have this : (numS m).cps.toList = ("-" : Str).cps.toList := by rw [z]
  rw [show (numS m).cps.toList = _ from e, show ("-" : Str).cps.toList = [45] by decide +kernel] at this
  have := numL_digits m.toNat 45 (by rw [this]; simp)
  omega
theorem S_size_in : FnS ["word"] ["word"] ["word"] ["is_figures", "len", "NoText", "int"] (defScope (topS 86)) := ⟨by decide +kernel⟩
def sp_size_in (u : Uni) : Sp := fun vs H Q _ => ∃ (o : Option Int), (∀ m, o = some m → 0 ≤ m ∧ m ≤ 1000) ∧ Pf [isS (szS o)] (isOI o) vs H Q
theorem c_size_in {u : Uni} (bt : Bts u) (c_is_figures : Callable u "is_figures" 1 (sp_is_figures u) []) (Df : Defd u "size_in" "size_in" (topS 86) []) : Callable u "size_in" 2 (sp_size_in u) [] := by
  refine fn_pure (k := 1) (ps := ["word"]) Df S_size_in.scope (fun f fd F => ⟨[], F.bindsN (fun _ _ _ _ _ _ us hl => match us, hl with | [_], _ => rfl), .nil⟩) ?_ (fun _ _ _ _ h => h)
  rintro vs H Q ⟨o, h1, h⟩
  refine ⟨_, _, rfl, h, fun X Z hM g hf => ?_⟩
  have S := S_size_in
  have nm := S.nm
  cases o with
  | none =>
    rw [show szS none = ("-" : Str) from rfl]
    k_extra "ifT"
    k_extra "retB"
    rfl
  | some m =>
    rw [show szS (some m) = numS m from rfl]
    obtain ⟨m1, m2⟩ := h1 m rfl
    obtain ⟨f1, f2⟩ := numS_fig m1 m2
    have ne := num_ne_dash m1
    have it := numS_int m1 m2
    have zl : (numS m).length ≤ sizeLine := by rw [sizeLine_eq]; omega
    have l6 : (numS m).length ≤ 640 := by omega
    apply tr_skip
    · apply JT.to
      · k_extra "t"
      · exact decide_eq_false ne
    apply tr_skip
    · apply JT.to
      · k_extra "t"
      · rw [decide_eq_false (by omega)]; rfl
    apply tr_retP
    apply J.to (P := isI m)
    · apply jb_intS g bt nm
      · k_extra "at"
      · k_extra "j"
      · exact it
      · exact l6
      · exact rfl
    · rfl
section
variable {u : Uni} {N V G : List Str} {sc : Scope} {k l j : Nat} {X : Cx} {Z : Zn} {Γ : List Ty} {e0 : Expr} {pos p : Pos}
theorem jc_size_in {o : Option Int} (g : Good u N sc k X) (nm : Nm sc V G) (F : Callable u "size_in" l (sp_size_in u) []) (hl : Nat.ble l k = true) (hG : At G j "size_in") (ha : J X Z Γ e0 (isS (szS o))) (h1 : ∀ m, o = some m → 0 ≤ m ∧ m ≤ 1000)
    (hs : starEach [e0] X.env = (false, eval e0 X.env) :: starEach [] X.env) : J X Z Γ (.Call (.Name "size_in" p) [e0] [] pos) (isOI o) :=
  j_call g F (Nat.le_of_ble_eq_true hl) (fun _ _ _ h => ⟨o, h1, h⟩) (ja_cons ha ja_nil hs) (nm.gl hG) hs rfl
theorem jc_size_inN {m : Int} (g : Good u N sc k X) (nm : Nm sc V G) (F : Callable u "size_in" l (sp_size_in u) []) (hl : Nat.ble l k = true) (hG : At G j "size_in") (ha : J X Z Γ e0 (isS (numS m))) (h1 : 0 ≤ m) (h2 : m ≤ 1000)
    (hs : starEach [e0] X.env = (false, eval e0 X.env) :: starEach [] X.env) : J X Z Γ (.Call (.Name "size_in" p) [e0] [] pos) (isI m) :=
  jc_size_in (o := some m) g nm F hl hG ha (fun _ e => by cases e; exact ⟨h1, h2⟩) hs
end
def Bx.hdT : Bx → List Str
  | .box n _ _ => [n]
  | _ => []
/-- the tree of a box without its kids -/
def isHd (K : PySem.W.Frag) : Bx → Pr
  | .box n s h => isT K [isS "box", isS n, isSz K s, isI h]
  | .row n s sp sd go _ => isT K [isS "row", isS n, isSz K s, isI sp, isS sd, isB go]
  | .col n s sp sd _ => isT K [isS "column", isS n, isSz K s, isI sp, isS sd]
example : True := by
  k_with "call" => ((with_reducible apply jc_size_inN g nm c_size_in); (· exact rfl); (· k_extra "at"); (· k_extra "j"); (· k_extra "side"); (· k_extra "side"); (· exact rfl))
  trivial
theorem S_parts_of : FnS ["row", "words", "sizes", "word"] ["row"] ["row", "words", "sizes"] ["len", "NoText", "tuple", "size_in"] (defScope (topS 87)) := ⟨by decide +kernel⟩
def sp_parts_of (u : Uni) : Sp := fun vs H Q _ => ∃ b : Bx, b.ok ∧ Pf [isS b.rowS] (isHd u.K b) vs H Q
theorem c_parts_of {u : Uni} (bt : Bts u) (c_size_in : Callable u "size_in" 2 (sp_size_in u) []) (Df : Defd u "parts_of" "parts_of" (topS 87) []) : Callable u "parts_of" 3 (sp_parts_of u) [] := by
  refine fn_pure (k := 2) (ps := ["row"]) Df S_parts_of.scope (fun f fd F => ⟨[], F.bindsN (fun _ _ _ _ _ _ us hl => match us, hl with | [_], _ => rfl), .nil⟩) ?_ (fun _ _ _ _ h => h)
  rintro vs H Q ⟨b, ok, h⟩
  refine ⟨_, _, rfl, h, fun X Z hM g hf => ?_⟩
  have S := S_parts_of
  have nm := S.nm
  have sp := Bx.split_row ok
  have rl := Bx.rowS_len ok
  have rl2 : b.rowS.length + 2 ≤ sizeLine := by rw [sizeLine_eq]; omega
  have b1 : ((" " : Str).length == 0) = false := by decide +kernel
  apply tr_let g hf S (P := isL (b.ws.map isS))
  · k_extra "at"
  · k_extra "at"
  · apply j_split
    · k_extra "j"
    · k_extra "j"
    · exact b1
    · exact rl2
    · exact sp
    · exact rfl
    · exact rfl
    · exact rfl
  · exact rfl
  · exact rfl
  cases b with
  | box nb s hi =>
    rw [Bx.ok] at ok
    obtain ⟨k1, k2, k3, k4⟩ := ok
    k_extra "skip"
    apply tr_let g hf S (P := isSz u.K s)
    · k_extra "at"
    · k_extra "at"
    · apply J.to
      · apply jb_tuple g bt nm (P := isL ((szL s).map isOI))
        · k_extra "at"
        · refine j_comp (jn_map g (xs := szL s) (A := fun o => isS (szS o)) (B := isOI) [("word", 3)] (ji_list g (P := isL ((szL s).map fun o => isS (szS o))) ?_ lst_L) (by decide +kernel) (show 5 ≤ 1000 by decide) (fun o => [(3, isS (szS o))]) (by simp) ?_ (fun _ => rfl))
          · apply J.to
            · k_extra "j"
            · rfl
          · intro o ho G X' g
            have nm := nmOf g ["word"] ["size_in"] (by decide +kernel)
            have oo := szL_ok k2 o ho
            refine ⟨by k_extra "jgo", ?_⟩
            apply jc_size_in g nm c_size_in rfl
            · k_extra "at"
            · k_extra "j"
            · exact oo
            · exact rfl
        · exact lst_L
        · exact rfl
      · rfl
    · exact rfl
    · exact rfl
    k_extra "ifT"
    apply tr_retB
    apply J.imp
    · k_extra "j"
    · exact fun S v h => tt_T S v h
  | row nb s sp sd go ks =>
    rw [Bx.ok] at ok
    obtain ⟨k1, k2, k3, k4, k5, k6, k7⟩ := ok
    cases go with
    | true =>
      k_extra "skip"
      apply tr_let g hf S (P := isSz u.K s)
      · k_extra "at"
      · k_extra "at"
      · apply J.to
        · apply jb_tuple g bt nm (P := isL ((szL s).map isOI))
          · k_extra "at"
          · refine j_comp (jn_map g (xs := szL s) (A := fun o => isS (szS o)) (B := isOI) [("word", 3)] (ji_list g (P := isL ((szL s).map fun o => isS (szS o))) ?_ lst_L) (by decide +kernel) (show 5 ≤ 1000 by decide) (fun o => [(3, isS (szS o))]) (by simp) ?_ (fun _ => rfl))
            · apply J.to
              · k_extra "j"
              · rfl
            · intro o ho G X' g
              have nm := nmOf g ["word"] ["size_in"] (by decide +kernel)
              have oo := szL_ok k2 o ho
              refine ⟨by k_extra "jgo", ?_⟩
              apply jc_size_in g nm c_size_in rfl
              · k_extra "at"
              · k_extra "j"
              · exact oo
              · exact rfl
          · exact lst_L
          · exact rfl
        · rfl
      · exact rfl
      · exact rfl
      k_extra "skip"
      k_extra "skip"
      k_extra "skip"
      k_extra "ifT"
      apply tr_retB
      apply J.imp
      · k_extra "j"
      · exact fun S v h => tt_T S v h
    | false =>
      k_extra "skip"
      apply tr_let g hf S (P := isSz u.K s)
      · k_extra "at"
      · k_extra "at"
      · apply J.to
        · apply jb_tuple g bt nm (P := isL ((szL s).map isOI))
          · k_extra "at"
          · refine j_comp (jn_map g (xs := szL s) (A := fun o => isS (szS o)) (B := isOI) [("word", 3)] (ji_list g (P := isL ((szL s).map fun o => isS (szS o))) ?_ lst_L) (by decide +kernel) (show 5 ≤ 1000 by decide) (fun o => [(3, isS (szS o))]) (by simp) ?_ (fun _ => rfl))
            · apply J.to
              · k_extra "j"
              · rfl
            · intro o ho G X' g
              have nm := nmOf g ["word"] ["size_in"] (by decide +kernel)
              have oo := szL_ok k2 o ho
              refine ⟨by k_extra "jgo", ?_⟩
              apply jc_size_in g nm c_size_in rfl
              · k_extra "at"
              · k_extra "j"
              · exact oo
              · exact rfl
          · exact lst_L
          · exact rfl
        · rfl
      · exact rfl
      · exact rfl
      k_extra "skip"
      k_extra "skip"
      k_extra "ifT"
      apply tr_retB
      apply J.imp
      · k_extra "j"
      · exact fun S v h => tt_T S v h
  | col nb s sp sd ks =>
    rw [Bx.ok] at ok
    obtain ⟨k1, k2, k3, k4, k5, k6, k7⟩ := ok
    k_extra "skip"
    apply tr_let g hf S (P := isSz u.K s)
    · k_extra "at"
    · k_extra "at"
    · apply J.to
      · apply jb_tuple g bt nm (P := isL ((szL s).map isOI))
        · k_extra "at"
        · refine j_comp (jn_map g (xs := szL s) (A := fun o => isS (szS o)) (B := isOI) [("word", 3)] (ji_list g (P := isL ((szL s).map fun o => isS (szS o))) ?_ lst_L) (by decide +kernel) (show 5 ≤ 1000 by decide) (fun o => [(3, isS (szS o))]) (by simp) ?_ (fun _ => rfl))
          · apply J.to
            · k_extra "j"
            · rfl
          · intro o ho G X' g
            have nm := nmOf g ["word"] ["size_in"] (by decide +kernel)
            have oo := szL_ok k2 o ho
            refine ⟨by k_extra "jgo", ?_⟩
            apply jc_size_in g nm c_size_in rfl
            · k_extra "at"
            · k_extra "j"
            · exact oo
            · exact rfl
        · exact lst_L
        · exact rfl
      · rfl
    · exact rfl
    · exact rfl
    k_extra "skip"
    k_extra "ifT"
    apply tr_retB
    apply J.imp
    · k_extra "j"
    · exact fun S v h => tt_T S v h

end Wd

end

section
set_option maxRecDepth 100000
set_option maxHeartbeats 4000000
namespace Wd
open PySem PySem.Spec L2
open TL
def FR : List Str := ["rest", "at"]
def rd (rows : List Str) (i : Nat) : List (Str × Pr) := [("rest", isL (rows.map isS)), ("at", isI (i : Int))]
example : True := by
  k_with "call" => ((with_reducible apply j_starts); (· k_extra "j"); (· k_extra "j"); (· exact rfl); (· exact rfl); (· exact rfl); (· exact rfl))
  k_with "j" => ((with_reducible apply j_fldA g); (· k_extra "j"); (· first | assumption | exact rfl); (· assumption); (· unfold FR; k_extra "at"); (· exact rfl))
  trivial
theorem S_Reader___init__ : FnS ["self", "rows"] ["self", "rows"] ["self", "rows"] [] (defScope (inClass (topS 88) 0)) := ⟨by decide +kernel⟩
theorem S_Reader_is_kid : FnS ["self", "ahead", "row"] ["self", "ahead"] ["self", "ahead", "row"] ["len"] (defScope (inClass (topS 88) 2)) := ⟨by decide +kernel⟩
def sp_readI (u : Uni) : Sp := fun vs H Q _ => ∃ C P, CF u.K FR C ∧ Pi C [] [P] [("rest", P), ("at", isI 0)] vs H Q
theorem ok_readI {u : Uni} {f : Addr} {fd : FuncData} (F : FunD u.K "__init__" "Reader.__init__" (defArgs (inClass (topS 88) 0)) (defBody (inClass (topS 88) 0)) (defScope (inClass (topS 88) 0)) [] [] f fd) : FnOk u.P u.w u.K u.mg u.base CX0 1 f fd ["self", "rows"] (sp_readI u) := by
  refine fn_init (k := 0) F S_Reader___init__.scope ?_ (fun _ _ _ _ h => h)
  rintro vs H Q ⟨C, P, c, h⟩
  refine ⟨_, _, _, _, rfl, h, fun X Z g hf => ?_⟩
  have S := S_Reader___init__
  have nm := S.nm
  apply tr_fldsetA g nm
  · k_extra "at"
  · k_extra "at"
  · exact rfl
  · exact c
  · unfold FR; k_extra "at"
  · exact rfl
  · k_extra "j"
  · exact rfl
  apply tr_fldsetA g nm
  · k_extra "at"
  · k_extra "at"
  · exact rfl
  · exact c
  · unfold FR; k_extra "at"
  · exact rfl
  · k_extra "j"
  · exact rfl
  exact tr_offI rfl
def spIsKid (u : Uni) (C : Addr) : Sp := fun vs H Q _ => ∃ (rows : List Str) (i : Nat) (a : Str), i ≤ rows.length ∧ rows.length ≤ 1000 ∧ a.length ≤ 1000 ∧ (∀ r ∈ rows, IsRow 6 r) ∧ Pf [isIns C (rd rows i), isS a] (isB (isKid rows i a)) vs H Q
theorem mc_isKid {u : Uni} {C : Addr} (bt : Bts u) (c : CF u.K FR C) (D : DefM u [C] "is_kid" "Reader.is_kid" (inClass (topS 88) 2)) : MC u C "is_kid" 1 (spIsKid u C) := by
  obtain ⟨f, fd, F, h⟩ := D.ex
  obtain ⟨h1, h2⟩ := h C List.mem_cons_self
  refine ⟨f, fd, ["self", "ahead"], h1, h2, F.bindsN (fun _ _ _ _ _ _ us hl => match us, hl with | [_, _], _ => rfl), ?_⟩
  refine fn_pureF (k := 0) F S_Reader_is_kid.scope ?_ (fun _ _ _ _ h => h)
  rintro vs H Q ⟨rows, i, a, hi, hl, ha, hr, h⟩
  refine ⟨_, _, rfl, h, fun X Z hM g hf => ?_⟩
  have S := S_Reader_is_kid
  have nm := S.nm
  have lm : (rows.map isS).length = rows.length := List.length_map ..
  have eR : List.lookup ("rest" : Str) (rd rows i) = some (isL (rows.map isS)) := rfl
  have eA : List.lookup ("at" : Str) (rd rows i) = some (isI (i : Int)) := rfl
  have la : a.length + (" " : Str).length ≤ sizeLine := by
    have e : (" " : Str).length = 1 := by decide +kernel
    rw [e, sizeLine_eq]; omega
  k_extra "if"
  · intro e
    have e := of_decide_eq_true e
    have e' : i = rows.length := by omega
    apply tr_retB
    apply J.to
    · k_extra "j"
    · unfold isKid
      rw [List.getElem?_eq_none (by omega)]
  · intro e
    have e := of_decide_eq_false e
    have hlt : i < rows.length := by omega
    have ix : atI (rows.map isS) (i : Int) = some (isS rows[i]) := atI_nat (by rw [List.getElem?_map, List.getElem?_eq_getElem hlt]; rfl)
    refine tr_end ?_
    k_extra "let"
    apply tr_retP
    apply J.to
    · k_extra "j"
    · unfold isKid
      rw [List.getElem?_eq_getElem hlt]

end Wd

end

section
set_option maxRecDepth 100000
set_option maxHeartbeats 4000000
namespace Wd
open PySem PySem.Spec L2
open TL
theorem hd_two (K : PySem.W.Frag) {b : Bx} (h : b.isB = false) : ∃ (kd : Str) (items : List Pr), kd ≠ "box" ∧ items.length ≤ 10 ∧ isHd K b = isT K (isS kd :: items) ∧ isTr K b = isT K ((isS kd :: items) ++ [isT K (b.kids.map (isTr K))]) := by
  cases b with
  | box => cases h
  | row n s sp sd go ks => exact ⟨"row", [isS n, isSz K s, isI sp, isS sd, isB go], by decide +kernel, Nat.le_of_ble_eq_true rfl, rfl, by rw [isTr, isTrs_map]; rfl⟩
  | col n s sp sd ks => exact ⟨"column", [isS n, isSz K s, isI sp, isS sd], by decide +kernel, Nat.le_of_ble_eq_true rfl, rfl, by rw [isTr, isTrs_map]; rfl⟩
theorem at_zero {α : Type} {x : α} {xs : List α} : atI (x :: xs) 0 = some x := by unfold atI ixN; rw [if_pos (by decide), if_pos (by simp)]; rfl
theorem S_Reader_tree : FnS ["self", "depth", "ahead", "found", "kids"] ["self", "depth"] ["self", "depth", "ahead", "found", "kids"] ["MOST_DEEP", "NoText", "parts_of", "len", "tuple"] (defScope (inClass (topS 88) 1)) := ⟨by decide +kernel⟩
structure TreeIn (n : Nat) (b : Bx) (d : Nat) (pre post : List Str) : Prop where
  ok : b.ok
  dep : b.dep ≤ n
  d6 : d + b.dep ≤ 6
  stop : Stop d post
  rows : ∀ r ∈ pre ++ b.rows d ++ post, IsRow 6 r
  len : (pre ++ b.rows d ++ post).length ≤ 100
def spRdTree (u : Uni) (C : Addr) (n : Nat) : Sp := fun vs H Q _ => ∃ (b : Bx) (d : Nat) (pre post : List Str), TreeIn n b d pre post ∧
  Pw (ownI C (rd (pre ++ b.rows d ++ post) pre.length)) [] [isI (d : Int)] (ownI C (rd (pre ++ b.rows d ++ post) (pre.length + (b.rows d).length))) (fun _ => isTr u.K b) vs H Q
theorem TreeIn.kid {n : Nat} {b kd : Bx} {d j : Nat} {pre post : List Str} (I : TreeIn (n + 1) b d pre post) (h : b.kids[j]? = some kd) :
    TreeIn n kd (d + 1) (pre ++ ((bl d ++ b.rowS) :: kidRows b d j)) (((b.kids.drop (j + 1)).map fun k => k.rows (d + 1)).flatten ++ post) ∧
      pre ++ b.rows d ++ post = (pre ++ ((bl d ++ b.rowS) :: kidRows b d j)) ++ kd.rows (d + 1) ++ (((b.kids.drop (j + 1)).map fun k => k.rows (d + 1)).flatten ++ post) := by
  have e : pre ++ b.rows d ++ post = (pre ++ ((bl d ++ b.rowS) :: kidRows b d j)) ++ kd.rows (d + 1) ++ (((b.kids.drop (j + 1)).map fun k => k.rows (d + 1)).flatten ++ post) := by
    rw [rows_cut h]
    simp only [List.append_assoc]
  have km := List.mem_of_getElem? h
  refine ⟨⟨(Bx.ok_kids I.ok).2 kd km, Bx.dep_kids I.dep kd km, ?_, stop_next I.ok I.stop, by rw [← e]; exact I.rows, by rw [← e]; exact I.len⟩, e⟩
  have := Bx.dep_kids (n := b.dep - 1) (by have := b.dep_pos; omega) kd km
  have := I.d6
  have := b.dep_pos
  omega
theorem atI_mid {pre post : List Str} {b : Bx} {d : Nat} : atI ((pre ++ b.rows d ++ post).map isS) (pre.length : Int) = some (isS (bl d ++ b.rowS)) := by
  refine atI_nat ?_
  rw [List.getElem?_map, List.append_assoc, List.getElem?_append_right (Nat.le_refl _), Nat.sub_self, Bx.rows_eq]
  rfl
theorem fn_rdTree {u : Uni} {C : Addr} (bt : Bts u) (c : CF u.K FR C) (mk : MC u C "is_kid" 1 (spIsKid u C)) (c_parts_of : Callable u "parts_of" 3 (sp_parts_of u) []) (gM : Glo u "MOST_DEEP" (isI 7)) {f : Addr} {fd : FuncData} (F : FunD u.K "tree" "Reader.tree" (defArgs (inClass (topS 88) 1)) (defBody (inClass (topS 88) 1)) (defScope (inClass (topS 88) 1)) [] [] f fd) (hc : Cls u.K C) (hM : Meth u.K C "tree" f) :
    ∀ n, FnOk u.P u.w u.K u.mg u.base CX0 (n + 4) f fd ["self", "depth"] (spRdTree u C n)
  | 0 => fn_own (k := 3) F S_Reader_tree.scope (fun vs H Q ⟨b, d, pre, post, I, _⟩ => absurd I.dep (by have := b.dep_pos; omega)) (fun _ _ _ _ h => h)
  | n + 1 => by
    have ih := fn_rdTree bt c mk c_parts_of gM F hc hM n
    have bd := F.bindsN (ps := ["self", "depth"]) (fun _ _ _ _ _ _ us hl => match us, hl with | [_, _], _ => rfl)
    have M : MC u C "tree" (n + 4) (spRdTree u C n) := ⟨f, fd, ["self", "depth"], hc, hM, bd, ih⟩
    refine fn_own (k := n + 4) F S_Reader_tree.scope ?_ (fun _ _ _ _ h => h)
    rintro vs H Q ⟨b, d, pre, post, I, h⟩
    refine ⟨_, _, _, _, _, rfl, h, fun X Z g hf => ?_⟩
    have S := S_Reader_tree
    have nm := S.nm
    have dp := b.dep_pos
    have d6 := I.d6
    have k3 : Nat.ble 3 (n + 4) = true := Nat.ble_eq_true_of_le (by omega)
    generalize hrows : pre ++ b.rows d ++ post = rows at h
    have eR : ∀ i, List.lookup ("rest" : Str) (rd rows i) = some (isL (rows.map isS)) := fun _ => rfl
    have eA : ∀ i : Nat, List.lookup ("at" : Str) (rd rows i) = some (isI (i : Int)) := fun _ => rfl
    have ix0 : atI (rows.map isS) (pre.length : Int) = some (isS (bl d ++ b.rowS)) := by rw [← hrows]; exact atI_mid
    have aR : At FR 0 ("rest" : Str) := .here
    have aA : At FR 1 ("at" : Str) := .there .here
    have two : ("  " : Str).length ≤ 1000 := by decide +kernel
    have d1000 : d ≤ 1000 := by omega
    have bz : (bl d).length ≤ sizeLine := by rw [bl_len, sizeLine_eq]; omega
    have rl := Bx.rowS_len I.ok
    have rz : (bl d ++ b.rowS).length ≤ sizeLine := by
      have e1 : (bl d ++ b.rowS).length = (bl d).length + b.rowS.length := by rw [len_cps, app_tl, List.length_append, ← len_cps, ← len_cps]
      rw [e1, bl_len, sizeLine_eq]; omega
    have l2 : (bl d).length + ("  " : Str).length ≤ sizeLine := bl_app (by omega) _ two
    apply tr_skip
    · apply JT.to
      · k_extra "t"
      · exact decide_eq_false (by omega)
    apply tr_let g hf S (P := isS (bl d))
    · k_extra "at"
    · k_extra "at"
    · apply J.to
      · apply j_repS
        · k_extra "j"
        · k_extra "j"
        · exact two
        · exact d1000
      · rfl
    · exact rfl
    · exact rfl
    apply tr_let g hf S (P := isHd u.K b)
    · k_extra "at"
    · k_extra "at"
    · refine j_call g c_parts_of (Nat.le_of_ble_eq_true k3) (ret := isHd u.K b) (Ps := [isS b.rowS]) (fun vs H Q h => ⟨b, I.ok, h⟩) ?_ (nm.gl (by k_extra "at")) rfl rfl
      apply ja_cons
      · apply J.to
        · apply j_sliceS (s := bl d ++ b.rowS)
          · apply j_ix g
            · exact j_fldO g c aR (i := 0) (l := false) rfl (nm.var At.here) rfl rfl rfl
            · exact j_fldO g c aA (i := 0) (l := false) rfl (nm.var At.here) rfl rfl rfl
            · exact ix_L lst_L ix0
            · exact fun _ _ => rfl
          · k_extra "jp"
          · k_extra "jp"
          · exact rz
        · rw [cut_bl]
      · k_extra "ja"
      · exact rfl
    · exact rfl
    · exact rfl
    refine tr_fldaug g c (i := 0) (l := false) (n := (pre.length : Int)) (d := 1) (fs := rd rows pre.length) aA rfl (nm.var At.here) rfl rfl (show 2 ≤ 100 by decide) (by k_extra "j") ?_
    have epl : putP ("at" : Str) (isI ((pre.length : Int) + 1)) (rd rows pre.length) = rd rows (pre.length + 1) := rfl
    rw [epl]
    cases hB : b.isB with
    | true =>
      cases b with
      | row => cases hB
      | col => cases hB
      | box nb s hi =>
        apply tr_ifT
        · apply JT.to
          · apply jt_cmp
            · apply j_ix g (P1 := isT u.K [isS "box", isS nb, isSz u.K s, isI hi])
              · k_extra "j"
              · k_extra "j"
              · k_extra "ix"
              · exact fun _ _ => rfl
            · k_extra "j"
            · k_extra "cmp"
            · exact rfl
          · exact decide_eq_true rfl
        apply tr_retWB (P := isHd u.K (.box nb s hi))
        · k_extra "j"
        · exact rfl
        · intro p S v hv
          rw [isTr]
          exact hv
    | false =>
      obtain ⟨kd, items, hk1, hk2, hk3, hk4⟩ := hd_two u.K hB
      rw [hk3, hk4]
      apply tr_skip
      · apply JT.to
        · apply jt_cmp
          · apply j_ix g (P1 := isT u.K (isS kd :: items)) (n := 0) (P := isS kd)
            · k_extra "j"
            · k_extra "j"
            · exact ix_T tup_T at_zero
            · exact fun _ _ => rfl
          · k_extra "j"
          · k_extra "cmp"
          · exact rfl
        · exact decide_eq_false hk1
      k_extra "letN"
      have hl1 : pre.length + (b.rows d).length ≤ rows.length := by rw [← hrows]; simp
      have hr100 : rows.length ≤ 100 := by rw [← hrows]; exact I.len
      have hrr : ∀ r ∈ rows, IsRow 6 r := by rw [← hrows]; exact I.rows
      have k12 := (Bx.ok_kids I.ok).1
      have offs : ∀ j, j ≤ b.kids.length → pre.length + 1 + (kidRows b d j).length ≤ rows.length := fun j hj => by
        have e := congrArg List.length (rows_all b d)
        rw [List.length_cons] at e
        have : (kidRows b d j).length ≤ (kidRows b d b.kids.length).length := by
          unfold kidRows
          rw [List.take_length]
          conv => rhs; rw [← List.take_append_drop j b.kids]
          rw [List.map_append, List.flatten_append, List.length_append]
          omega
        omega
      have test : ∀ j, j ≤ b.kids.length → isKid rows (pre.length + 1 + (kidRows b d j).length) (bl (d + 1)) = decide (j < b.kids.length) := fun j hj => by
        by_cases lt : j < b.kids.length
        · obtain ⟨I2, e2⟩ := I.kid (List.getElem?_eq_getElem lt)
          have := isKid_row (pre := pre ++ ((bl d ++ b.rowS) :: kidRows b d j)) (post := ((b.kids.drop (j + 1)).map fun k => k.rows (d + 1)).flatten ++ post) (b := b.kids[j]) (d := d + 1) I2.ok
          rw [← e2, hrows, List.length_append, List.length_cons] at this
          rw [decide_eq_true lt, ← this]
          congr 1
          omega
        · obtain rfl : j = b.kids.length := by omega
          have := isKid_stop (pre := pre ++ b.rows d) I.stop
          rw [hrows, List.length_append] at this
          rw [decide_eq_false lt, ← this]
          congr 1
          rw [rows_all b d, List.length_cons]
          omega
      refine tr_whileD g (fun j : Nat => [.own false (ownI C (rd rows (pre.length + 1 + (kidRows b d j).length))), .val (isI (d : Int)), .val (isS (bl d)), .val (isT u.K (isS kd :: items)), .own true (ownL ((b.kids.take j).map (isTr u.K)))])
        (fun j => j ≤ b.kids.length) (fun j => b.kids.length - j) 0 (Nat.zero_le _) rfl ?_
      intro j hj
      have l3 : (bl (d + 1)).length ≤ 1000 := by rw [bl_len]; omega
      refine ⟨decide (j < b.kids.length), ?_, fun e => ?_, fun e => ?_⟩
      · apply jt_call
        apply J.to
        · refine j_methO (C := C) (fs0 := rd rows (pre.length + 1 + (kidRows b d j).length)) (i := 0) (l := false) (Ps := [isS (bl (d + 1))]) (ret := isB (isKid rows (pre.length + 1 + (kidRows b d j).length) (bl (d + 1)))) g mk (by omega) rfl (nm.var At.here) rfl rfl (fun vs H Q h => ⟨rows, _, _, offs j hj, by omega, l3, hrr, h⟩) plain_V ?_ rfl rfl rfl
          apply ja_cons
          · apply J.to
            · k_extra "j"
            · rw [bl_succ]
          · k_extra "ja"
          · exact rfl
        · rw [test j hj]
      · have lt := of_decide_eq_true e
        have hk := List.getElem?_eq_getElem lt
        obtain ⟨I2, e2⟩ := I.kid hk
        have el : (pre ++ ((bl d ++ b.rowS) :: kidRows b d j)).length = pre.length + 1 + (kidRows b d j).length := by rw [List.length_append, List.length_cons]; omega
        have el2 : (pre ++ ((bl d ++ b.rowS) :: kidRows b d j)).length + ((b.kids[j]).rows (d + 1)).length = pre.length + 1 + (kidRows b d (j + 1)).length := by rw [el, kidRows_succ hk, List.length_append]; omega
        have szl : ((b.kids.take j).map (isTr u.K)).length ≤ 1000 := by rw [List.length_map, List.length_take]; omega
        refine tr_appendM (C0 := ownI C (rd rows (pre.length + 1 + (kidRows b d j).length))) (C1 := ownI C (rd rows (pre.length + 1 + (kidRows b d (j + 1)).length))) (P := isTr u.K b.kids[j]) (l := false) (l' := true) (i := 0) (j := 4) g rfl (by decide) rfl (nm.var (by k_extra "at")) ?_ rfl szl ?_ rfl rfl rfl rfl rfl
        · refine jm_meth (C := C) (fs0 := rd rows (pre.length + 1 + (kidRows b d j).length)) (Ps := [isI ((d + 1 : Nat) : Int)]) g M (Nat.le_refl _) rfl (nm.var At.here) rfl rfl (fun vs H Q h => ⟨b.kids[j], d + 1, _, _, I2, ?_⟩) ?_ rfl rfl rfl
          · rw [← e2, hrows, el2, el]
            exact h
          · apply ja_cons
            · apply J.to
              · k_extra "j"
              · rfl
            · k_extra "ja"
            · exact rfl
        · refine tr_turnD (j + 1) rfl ⟨by omega, by omega⟩ ?_
          rw [List.take_succ, hk, List.map_append]
          k_extra "sub"
      · have ge := of_decide_eq_false e
        obtain rfl : j = b.kids.length := by omega
        rw [List.take_length]
        refine tr_frz 4 rfl own_L ?_
        have hsz : (isS kd :: items).length + [isT u.K (b.kids.map (isTr u.K))].length ≤ 1000 := by simp; omega
        apply tr_retW (P := isTt ((isS kd :: items) ++ [isT u.K (b.kids.map (isTr u.K))]))
        · apply j_catT (K := u.K)
          · k_extra "j"
          · apply j_tup g
            · apply ja_cons
              · k_extra "j"
              · k_extra "ja"
              · exact rfl
            · exact Nat.le_of_ble_eq_true rfl
          · exact congrArg Uni.K g.eu
          · exact tup_T
          · exact tup_Tt
          · exact List.cons_ne_nil _ _
          · exact List.cons_ne_nil _ _
          · exact hsz
        · rw [rows_all b d, List.length_cons, Nat.add_assoc, Nat.add_comm 1]
          rfl
        · exact fun p S v hv => tt_T S v hv

end Wd

end

section
set_option maxRecDepth 100000
set_option maxHeartbeats 4000000
namespace Wd
open PySem PySem.Spec L2
open TL
theorem nn_Bx {c : Cl} {K : PySem.W.Frag} {b : Bx} : ∀ (S : Hp) (v : V), (isBx c K b).p S v → decide (v = .non) = false := fun S v h => decide_eq_false fun z => by
  obtain ⟨C, fs, _, e, _⟩ := isBx_ins c K b
  rw [e] at h
  obtain ⟨a, dx, vs, e, _⟩ := h
  rw [e] at z; cases z
theorem atI_last {α : Type} {xs : List α} {x : α} : atI (xs ++ [x]) (-1) = some x := by
  unfold atI ixN
  rw [if_neg (by decide), if_pos (by rw [List.length_append, List.length_singleton]; omega)]
  rw [show (-1 + ((xs ++ [x]).length : Int)).toNat = xs.length by rw [List.length_append, List.length_singleton]; omega]
  show (xs ++ [x])[xs.length]? = some x
  rw [List.getElem?_append_right (Nat.le_refl _), Nat.sub_self]
  rfl
theorem filt_rows {rows : List Str} {m : Nat} (h : ∀ r ∈ rows, IsRow m r) : (rows ++ ([""] : List Str)).filter (fun r => !decide (Txt.stripChars r " " = "")) = rows := by
  rw [List.filter_append]
  have e1 : rows.filter (fun r => !decide (Txt.stripChars r " " = "")) = rows := List.filter_eq_self.mpr fun r hr => by
    rw [decide_eq_false (h r hr).strip]; rfl
  rw [e1]
  have e2 : ([""] : List Str).filter (fun r => !decide (Txt.stripChars r " " = "")) = [] := by
    rw [List.filter_cons_of_neg (by rw [decide_eq_true (strip_none rfl " ")]; decide)]
    rfl
  rw [e2, List.append_nil]
example : True := by
  k_with "call" => ((with_reducible apply j_strip); (· k_extra "j"); (· k_extra "j"); (· k_extra "side"); (· exact rfl); (· exact rfl); (· exact rfl))
  k_with "isnone" => with_reducible exact nn_Bx
  trivial
theorem S_read_box : FnS ["text", "pieces", "rows", "reader", "found", "row"] ["text"] ["text", "pieces", "rows", "reader", "found"] ["isinstance", "str", "NoText", "Reader", "box_of", "NoBox", "len", "written"] (defScope (topS 89)) := ⟨by decide +kernel⟩
def sp_read_box (u : Uni) (c : Cl) : Sp := fun vs H Q _ => ∃ b : Bx, b.ok ∧ b.dep ≤ 6 ∧ b.names.Nodup ∧ b.names.length ≤ 40 ∧ Pf [isS (textOf (b.rows 0))] (isBx c u.K b) vs H Q
theorem c_read_box {u : Uni} {c : Cl} {C : Addr} (bt : Bts u) (cf : CF u.K FR C) (mk : MkC u "Reader" C 1 (sp_readI u)) (mt : MC u C "tree" 10 (spRdTree u C 6)) (c_box_of : Callable u "box_of" 12 (sp_box_of u c) []) (c_written : Callable u "written" 15 (sp_written u c) [])
    (Df : Defd u "read_box" "read_box" (topS 89) []) : Callable u "read_box" 16 (sp_read_box u c) [] := by
  refine fn_pure (k := 15) (ps := ["text"]) Df S_read_box.scope (fun f fd F => ⟨[], F.bindsN (fun _ _ _ _ _ _ us hl => match us, hl with | [_], _ => rfl), .nil⟩) ?_ (fun _ _ _ _ h => h)
  rintro vs H Q ⟨b, ok, hd, nd, h40, h⟩
  refine ⟨_, _, rfl, h, fun X Z hM g hf => ?_⟩
  have S := S_read_box
  have nm := S.nm
  have rws := b.rows_row 0 6 ok (by omega)
  have rl : (b.rows 0).length ≤ 40 := by rw [b.rows_len]; exact h40
  have tl1 : (textOf (b.rows 0)).length ≤ 40 * 103 := Nat.le_trans (text_len (n := 102) fun r hr => (rws r hr).len) (Nat.mul_le_mul_right _ rl)
  have tl2 : (textOf (b.rows 0)).length + 2 ≤ sizeLine := by rw [sizeLine_eq]; omega
  have sp := text_split fun r hr => (rws r hr).nl
  have n1 : (("\n" : Str).length == 0) = false := by decide +kernel
  have rne : b.rows 0 ≠ [] := by rw [Bx.rows_eq]; exact List.cons_ne_nil _ _
  generalize hrows : b.rows 0 = rows at *
  apply tr_skip
  · apply JT.to
    · k_extra "t"
    · rfl
  apply tr_let g hf S (P := isL ((rows ++ ([""] : List Str)).map isS))
  · k_extra "at"
  · k_extra "at"
  · apply j_split
    · k_extra "j"
    · k_extra "j"
    · exact n1
    · exact tl2
    · exact sp
    · exact rfl
    · exact rfl
    · exact rfl
  · exact rfl
  · exact rfl
  refine tr_setC g (i := 2) (C := ownL (rows.map isS)) ?_ (At.get (by k_extra "at")) (by decide +kernel) (by decide +kernel) rfl rfl (by decide +kernel) ?_
  · have q := filt_rows rws
    rw [show rows.map isS = ((rows ++ ([""] : List Str)).filter (fun r => !decide (Txt.stripChars r " " = ""))).map isS by rw [q]]
    refine jl_filt g (xs := rows ++ ([""] : List Str)) (A := isS) (B := isS) (fun r => !decide (Txt.stripChars r " " = "")) [("row", 5)] (ji_list g (P := isL ((rows ++ ([""] : List Str)).map isS)) (by k_extra "j") lst_L) (by decide +kernel) (by simp; omega) (fun r => [(5, isS r)]) (by simp) ?_ (fun _ => rfl)
    intro r hr G X' g
    have nm := nmOf g ["row"] [] (by decide +kernel)
    have rz : r.length ≤ sizeLine := by
      rw [sizeLine_eq]
      rcases List.mem_append.mp hr with z | z
      · have := (rws r z).len; omega
      · rw [List.mem_singleton.mp z]; decide
    refine ⟨by k_extra "jgo", ?_, fun _ => by k_extra "j"⟩
    k_extra "t"
  refine tr_frz 2 rfl own_L ?_
  have e0 : CmpR X .Eq (isL (rows.map isS)) (isL []) ((rows.map PyData.str).isEmpty) := cmp_eqNil g (dat_strs rows) (shp_strs fun s hs => (rws s hs).sok) (by decide)
  have ixl : atI ((rows ++ ([""] : List Str)).map isS) (-1) = some (isS "") := by rw [List.map_append]; exact atI_last
  have z0 : ("" : Str).length ≤ sizeLine := by decide
  apply tr_skip
  · apply JT.to
    · k_extra "t"
    · rw [decide_eq_true (strip_none rfl " ")]
      cases rows with
      | nil => exact absurd rfl rne
      | cons => rfl
  apply tr_letN g hf S (C := ownI C (rd rows 0))
  · k_extra "at"
  · k_extra "at"
  · refine jn_make g mk (by omega) (Ps := [isL (rows.map isS)]) (fun vs H Q h => ⟨C, _, cf, h⟩) ?_ (nm.gl (by k_extra "at")) rfl rfl
    k_extra "ja"
  · exact rfl
  · exact rfl
  k_extra "let"
  have TI : TreeIn 6 b 0 [] [] := ⟨ok, hd, by omega, (fun r z => nomatch z), by simpa [hrows] using rws, by simp [hrows]; omega⟩
  have er : ([] : List Str) ++ b.rows 0 ++ [] = rows := by simp [hrows]
  refine tr_try g ?_
  refine tr_letM (C0 := ownI C (rd rows 0)) (C1 := ownI C (rd rows rows.length)) (i := 3) (j := 4) (l := true) (P := isBx c u.K b) g hf rfl (S.loc (by k_extra "at")) ?_ rfl ?_ rfl rfl
  · refine jm_call1 (P := isTr u.K b) g c_box_of (by omega) ?_ (fun vs H Q h => ⟨b, ok, hd, nd, h40, h⟩) (nm.gl (by k_extra "at")) rfl
    refine jm_meth (C := C) (fs0 := rd rows 0) (Ps := [isI ((0 : Nat) : Int)]) g mt (by omega) rfl (nm.var (by k_extra "at")) rfl rfl (fun vs H Q h => ⟨b, 0, [], [], TI, ?_⟩) ?_ rfl rfl rfl
    · rw [er, List.length_nil, Nat.zero_add, hrows]
      exact h
    · apply ja_cons
      · exact J.to j_int rfl
      · k_extra "ja"
      · exact rfl
  refine tr_end ?_
  have aA : At FR 1 ("at" : Str) := .there .here
  have lm : (rows.map isS).length = rows.length := List.length_map ..
  apply tr_skip
  · apply JT.to (b := false || (decide ((rows.length : Int) < (rows.length : Int)) || !decide (textOf rows = textOf rows)))
    · apply jt_bool
      apply jw_or
      · k_extra "t"
      · intro _
        apply jw_or
        · apply jt_cmp (P1 := isI (rows.length : Int))
          · exact j_fldO g cf aA (i := 3) (l := true) rfl (nm.var (by k_extra "at")) rfl rfl rfl
          · k_extra "j"
          · exact cmp_lt
          · exact rfl
        · intro _
          apply jw_or1
          apply jt_cmp (P1 := isS (textOf rows)) (P2 := isS (textOf rows))
          · refine j_call g c_written (Nat.le_refl _) (ret := isS (textOf rows)) (Ps := [isBx c u.K b]) (fun vs H Q h => ⟨b, ok, hd, h40, by rw [hrows]; exact h⟩) ?_ (nm.gl (by k_extra "at")) rfl rfl
            k_extra "ja"
          · apply J.to
            · apply j_join g (ss := rows.map fun r : Str => r ++ ("\n" : Str)) (P := isL ((rows.map fun r : Str => r ++ ("\n" : Str)).map isS))
              · k_extra "j"
              · rw [List.map_map]
                refine j_comp (jn_map g (xs := rows) (A := isS) (B := isS ∘ fun r : Str => r ++ ("\n" : Str)) [("row", 5)] (ji_list g (P := isL (rows.map isS)) (by k_extra "j") lst_L) (by decide +kernel) (by omega) (fun r => [(5, isS r)]) (by simp) ?_ (fun _ => rfl))
                intro r hr G X' g
                have nm := nmOf g ["row"] [] (by decide +kernel)
                have l1 : r.length + ("\n" : Str).length ≤ sizeLine := by
                  have := (rws r hr).len
                  have e : ("\n" : Str).length = 1 := by decide +kernel
                  rw [e, sizeLine_eq]; omega
                refine ⟨by k_extra "jgo", ?_⟩
                apply J.to
                · k_extra "j"
                · rfl
              · exact lst_L
              · exact rows_fit rws (by omega) (by omega)
              · exact rfl
              · exact rfl
              · exact rfl
            · rfl
          · exact cmp_neS
          · exact rfl
    · rw [decide_eq_true (rfl : textOf rows = textOf rows), decide_eq_false (by omega)]; rfl
  k_extra "ret"
  rfl

end Wd

end

section
set_option maxRecDepth 100000
set_option maxHeartbeats 4000000
namespace Wd
open PySem PySem.Spec L2
/-! ### _law_right -/
theorem mem_filter_names {rows : List Rw} (nd : (rows.map Rw.name).Nodup) {q : Rw} {x y : Rat} (hq : q ∈ rows) : decide (q.name ∈ (rows.filter (hasPt x y)).map Rw.name) = hasPt x y q := by
  cases hh : hasPt x y q with
  | true => exact decide_eq_true (List.mem_map.mpr ⟨q, List.mem_filter.mpr ⟨hq, hh⟩, rfl⟩)
  | false =>
    refine decide_eq_false fun z => ?_
    obtain ⟨p, hp, e⟩ := List.mem_map.mp z
    obtain ⟨p1, p2⟩ := List.mem_filter.mp hp
    obtain ⟨i, hi⟩ := List.getElem?_of_mem p1
    obtain ⟨j, hj⟩ := List.getElem?_of_mem hq
    have l1 : i < (rows.map Rw.name).length := by rw [List.length_map]; exact get_lt hi
    have ei : (rows.map Rw.name)[i]? = (rows.map Rw.name)[j]? := by rw [List.getElem?_map, List.getElem?_map, hi, hj]; exact congrArg some e
    have : i = j := (List.getElem?_inj l1 nd).mp ei
    subst this
    rw [hi] at hj
    cases hj
    rw [p2] at hh
    cases hh
theorem last_at (names : List Str) (h : ∀ s ∈ names, PyData.strOk s = true) : ∃ v d, (match names.getLast? with | some s => V.str s | none => V.non) = v ∧ atI (names.map isS ++ [isN]) (max 0 ((names.length : Int) - 1)) = some (isV v) ∧ (∀ K, DatP K (isV v) d) ∧ Shp 0 d ∧ PyData.eqv d d = true := by
  rcases List.eq_nil_or_concat names with z | ⟨l, s, z⟩
  · subst z
    exact ⟨.non, .none, rfl, rfl, fun K => dat_N, shp_none, by rw [PyData.eqv]⟩
  · rw [List.concat_eq_append] at z
    subst z
    refine ⟨.str s, .str s, by rw [List.getLast?_concat], ?_, fun K => dat_S, shp_str (h s (by simp)), by rw [PyData.eqv]; simp⟩
    rw [show max 0 (((l ++ [s]).length : Int) - 1) = ((l.length : Nat) : Int) by rw [List.length_append, List.length_singleton]; omega]
    refine atI_nat ?_
    rw [List.map_append, List.append_assoc, List.getElem?_append_right (by rw [List.length_map]; exact Nat.le_refl _), List.length_map, Nat.sub_self]
    rfl
def dPt (q : Rat) : PyData := .tuple [.int q.num, .int (q.den : Int)]
def dRw (r : Rw) : PyData := .tuple [.str r.name, dPt r.x, dPt r.y, dPt r.w, dPt r.h]
theorem dat_Rw {K : PySem.W.Frag} {r : Rw} : DatP K (isRw K r) (dRw r) := dat_T tup_Rw (.cons dat_S (.cons dat_Pt (.cons dat_Pt (.cons dat_Pt (.cons dat_Pt .nil)))))
theorem shp_Rw {r : Rw} (h : PyData.strOk r.name = true) : Shp 2 (dRw r) := shp_tuple fun d hd => by
  rcases List.mem_cons.mp hd with rfl | hd
  · exact (shp_str h).mono (by decide)
  · have : d = dPt r.x ∨ d = dPt r.y ∨ d = dPt r.w ∨ d = dPt r.h := by simpa using hd
    rcases this with h | h | h | h <;> subst h <;> exact shp_Pt
theorem eqv_Pt (q : Rat) : PyData.eqv (dPt q) (dPt q) = true := by simp [dPt, PyData.eqv, PyData.eqvAll]
theorem eqv_Rw (r : Rw) : PyData.eqv (dRw r) (dRw r) = true := by
  have := eqv_Pt
  simp [dRw, PyData.eqv, PyData.eqvAll, this]
section
variable {X : Cx}
theorem cmp_neB {i j : Bool} : CmpR X .NotEq (isB i) (isB j) (!decide (i = j)) := ⟨_, op_ne, fun _ _ _ _ e1 e2 _ q => by subst e1 e2; exact ⟨rfl, by rw [show decide (V.bl i = V.bl j) = decide (i = j) from by by_cases h : i = j <;> simp [h]]; exact q⟩⟩
end
def tiny : Rat := mkRat 1 1000000000000000
theorem tiny_sm : Sm tiny ∧ 0 < tiny ∧ tiny.num = 1 ∧ tiny.den = 1000000000000000 := by
  have e1 : tiny.num = 1 := by decide +kernel
  have e2 : tiny.den = 1000000000000000 := by decide +kernel
  refine ⟨⟨?_, ?_⟩, by decide +kernel, e1, e2⟩
  · rw [e1]; exact Nat.lt_of_lt_of_le (show (1 : Int).natAbs < 2 ^ 40 by decide) (nat_pow_le (by decide))
  · rw [e2]; exact Nat.lt_of_lt_of_le (show 1000000000000000 < 2 ^ 60 by decide) (nat_pow_le (by decide))
theorem tiny_Pt {K : PySem.W.Frag} (S : Hp) (v : V) (h : (isTt [isI 1, isI ((10 : Int) ^ (15 : Int).toNat)]).p S v) : (isPt K tiny).p S v := by
  obtain ⟨_, _, e1, e2⟩ := tiny_sm
  have e : (10 : Int) ^ (15 : Int).toNat = 1000000000000000 := by decide +kernel
  rw [e] at h
  have h := tt_T (K := K) S v h
  unfold isPt
  rw [e1, e2]
  exact h
theorem S_law_right : FnS ["_law_layout", "_law_parents_here", "_law_x", "_law_y", "_law_names_here", "_law_outer", "_law_one", "_law_here", "_law_more", "_law_name_here"] ["_law_layout", "_law_parents_here", "_law_x", "_law_y"] ["_law_layout", "_law_parents_here", "_law_x", "_law_y", "_law_names_here", "_law_outer", "_law_one", "_law_here", "_law_more"] ["at_point", "len", "set", "innermost", "max", "_law_in", "place_of", "crossing"] (defScope (topS 107)) := ⟨by decide +kernel⟩
structure RtIn (rows : List Rw) (ps : List (Str × Str)) (x y : Rat) : Prop where
  sm : ∀ r ∈ rows, SmR r
  few : rows.length ≤ 900
  nd : (rows.map Rw.name).Nodup
  sx : Sm x
  sy : Sm y
  ups : (((rows.filter (hasPt x y)).map fun q => (ps.lookup q.name).getD "")).Nodup
def sp_law_right (u : Uni) : Sp := fun vs H Q _ => ∃ (rows : List Rw) (ps : List (Str × Str)) (x y : Rat), RtIn rows ps x y ∧ Pf [isL (rows.map (isRw u.K)), isDF ps, isPt u.K x, isPt u.K y] (isB true) vs H Q
theorem c_law_right {u : Uni} (bt : Bts u) (c_at_point : Callable u "at_point" 5 (sp_at_point u) []) (c_innermost : Callable u "innermost" 6 (sp_innermost u) []) (c_law_in : Callable u "_law_in" 4 (sp_law_in u) []) (c_place_of : Callable u "place_of" 1 (sp_place_of u) []) (c_crossing : Callable u "crossing" 5 (sp_crossing u) [])
    (Df : Defd u "_law_right" "_law_right" (topS 107) []) : Callable u "_law_right" 7 (sp_law_right u) [] := by
  refine fn_pure (k := 6) (ps := ["_law_layout", "_law_parents_here", "_law_x", "_law_y"]) Df S_law_right.scope (fun f fd F => ⟨[], F.bindsN (fun _ _ _ _ _ _ us hl => match us, hl with | [_, _, _, _], _ => rfl), .nil⟩) ?_ (fun _ _ _ _ h => h)
  rintro vs H Q ⟨rows, ps, x, y, I, h⟩
  refine ⟨_, _, rfl, h, fun X Z hM g hf => ?_⟩
  have S := S_law_right
  have nm := S.nm
  obtain ⟨h1, h2, h3, h4, h5, h6⟩ := I
  have h2' : rows.length ≤ 1000 := by omega
  apply tr_let g hf S (P := isL (((rows.filter (hasPt x y)).map Rw.name).map isS))
  · k_extra "at"
  · k_extra "at"
  · k_extra "j"
  · exact rfl
  · exact rfl
  have fl := List.length_filter_le (hasPt x y) rows
  refine tr_setC g (i := 5) (C := ownL ((((rows.filter (hasPt x y)).map Rw.name).map fun n => (ps.lookup n).getD "").map isS)) ?_ (At.get (by k_extra "at")) (by decide +kernel) (by decide +kernel) rfl rfl (by decide +kernel) ?_
  · rw [show (((rows.filter (hasPt x y)).map Rw.name).map fun n => (ps.lookup n).getD "").map isS = ((rows.filter (hasPt x y)).map Rw.name).map (isS ∘ fun n => (ps.lookup n).getD "") from List.map_map ..]
    refine jl_map g (xs := (rows.filter (hasPt x y)).map Rw.name) (A := isS) (B := isS ∘ fun n => (ps.lookup n).getD "") [("_law_name_here", 9)] (ji_list g (P := isL (((rows.filter (hasPt x y)).map Rw.name).map isS)) (by k_extra "j") lst_L) (by decide +kernel) (by rw [List.length_map]; omega) (fun n => [(9, isS n)]) (by simp) ?_ (fun _ => rfl)
    intro n hn G X' g
    have nm := nmOf g ["_law_name_here", "_law_parents_here"] [] (by decide +kernel)
    refine ⟨by k_extra "jgo", ?_⟩
    apply j_dget2 g
    · k_extra "j"
    · k_extra "j"
    · k_extra "j"
    · exact ⟨rfl, rfl, rfl, rfl⟩
  refine tr_frz 5 rfl own_L ?_
  have nok : ∀ s ∈ (rows.filter (hasPt x y)).map Rw.name, PyData.strOk s = true := fun s hs => by
    obtain ⟨r, hr, rfl⟩ := List.mem_map.mp hs
    exact (h1 r (List.mem_filter.mp hr).1).nm
  obtain ⟨lv, ld, hl1, hl2, hl3, hl4, hl5⟩ := last_at _ nok
  generalize hnames : (rows.filter (hasPt x y)).map Rw.name = names at *
  have nlen : names.length ≤ 900 := by rw [← hnames, List.length_map]; omega
  have nd2 : (names.map fun n => (ps.lookup n).getD "").Nodup := by rw [← hnames, List.map_map]; exact h6
  have lo : ((names.map fun n => (ps.lookup n).getD "").map isS).length = names.length := by rw [List.length_map, List.length_map]
  have lo2 : (names.map fun n => (ps.lookup n).getD "").length < 1000 := by rw [List.length_map]; omega
  have ln : (names.map isS).length = names.length := List.length_map ..
  have lc : (names.map isS).length + [isN].length ≤ 1000 := by rw [List.length_map]; simp; omega
  apply tr_skip
  · apply JT.to (b := decide (((names.map fun n => (ps.lookup n).getD "").length : Int) < (names.length : Int)) || !true)
    · apply jt_bool
      apply jw_or
      · k_extra "t"
      · intro _
        apply jw_or1
        apply jt_cmp (P1 := isV lv) (P2 := isV lv)
        · apply J.to
          · k_extra "j"
          · rw [hnames]; exact congrArg isV hl1
        · apply j_ix g (P1 := isL (names.map isS ++ [isN]))
          · k_extra "j"
          · k_extra "j"
          · exact ix_L lst_L hl2
          · exact fun _ _ => rfl
        · exact cmp_neD g (hl3 _) (hl3 _) (hl4.ok (by decide)) (hl4.ok (by decide)) hl5
        · exact rfl
    · rw [List.length_map, decide_eq_false (by omega)]; rfl
  refine tr_forD g (Ps := rows.map (isRw u.K)) (by k_extra "ji") (fun i (a : Unit) => [.val (isL (rows.map (isRw u.K))), .val (isDF ps), .val (isPt u.K x), .val (isPt u.K y), .val (isL (names.map isS)), .val (isL ((names.map fun n => (ps.lookup n).getD "").map isS)), .any, .any, .any, .any]) (fun i a => True) () trivial (by k_extra "sub") ?_ ?_ (fun _ => rfl)
  · rintro i P a G hP _
    obtain ⟨r, hr, rfl⟩ := getElem_map hP
    have mr := List.mem_of_getElem? hr
    have hm := h1 r mr
    have m1 := hm.x
    have m2 := hm.y
    have m3 := hm.w
    have m4 := hm.h
    have inN : CmpR X .In (isS r.name) (isL (names.map isS)) (hasPt x y r) := by
      have := cmp_inSL g (s := r.name) (ss := names) (P2 := isL (names.map isS)) (dat_strsL lst_L) hm.nm nok
      rw [← hnames, mem_filter_names h3 mr] at this
      rw [hnames] at this
      exact this
    refine ⟨_, by k_extra "jg", ?_⟩
    apply tr_let g hf S (P := isB (hasPt x y r))
    · k_extra "at"
    · k_extra "at"
    · apply J.to
      · k_extra "j"
      · rfl
    · exact rfl
    · exact rfl
    apply tr_skip
    · apply JT.to (b := !decide (hasPt x y r = hasPt x y r) || !true)
      · apply jt_bool
        apply jw_or
        · apply jt_cmp (P1 := isB (hasPt x y r)) (P2 := isB (hasPt x y r))
          · k_extra "j"
          · apply j_cmp (P1 := isS r.name) (P2 := isL (names.map isS))
            · k_extra "j"
            · k_extra "j"
            · exact inN
            · exact rfl
          · exact cmp_neB
          · exact rfl
        · intro _
          apply jw_or1
          apply jt_cmp (P1 := isRw u.K r) (P2 := isRw u.K r)
          · k_extra "j"
          · k_extra "j"
          · exact cmp_neD g dat_Rw dat_Rw ((shp_Rw hm.nm).ok (by decide)) ((shp_Rw hm.nm).ok (by decide)) (eqv_Rw r)
          · exact rfl
      · simp
    exact tr_turnD () rfl trivial (by k_extra "sub")
  · intro _ _
    obtain ⟨t1, t2, _, _⟩ := tiny_sm
    have p15 : CPow 10 15 := ⟨by decide, by decide, by decide⟩
    apply tr_let g hf S (P := isL (((rows.filter (crossRw x y tiny tiny)).map Rw.name).map isS))
    · k_extra "at"
    · k_extra "at"
    · apply jc_crossing g nm c_crossing rfl (w := tiny) (t := tiny)
      · k_extra "at"
      · apply ja_cons
        · k_extra "j"
        · apply ja_cons
          · k_extra "j"
          · apply ja_cons
            · k_extra "j"
            · apply ja_cons
              · apply J.imp
                · k_extra "j"
                · exact tiny_Pt
              · apply ja_cons
                · apply J.imp
                  · k_extra "j"
                  · exact tiny_Pt
                · k_extra "ja"
                · exact rfl
              · exact rfl
            · exact rfl
          · exact rfl
        · exact rfl
      · exact h1
      · exact h4
      · exact h5
      · exact t1
      · exact t1
      · exact h2'
      · exact rfl
      · exact rfl
    · exact rfl
    · exact rfl
    have fnil : names.filter (fun n => !decide (n ∈ (rows.filter (crossRw x y tiny tiny)).map Rw.name)) = [] := by
      refine List.filter_eq_nil_iff.mpr fun n hn => ?_
      rw [← hnames] at hn
      obtain ⟨r, hr, rfl⟩ := List.mem_map.mp hn
      obtain ⟨r1, r2⟩ := List.mem_filter.mp hr
      rw [decide_eq_true (List.mem_map.mpr ⟨r, List.mem_filter.mpr ⟨r1, hasPt_cross r2 t2 t2⟩, rfl⟩)]
      decide
    have cok : ∀ s ∈ (rows.filter (crossRw x y tiny tiny)).map Rw.name, PyData.strOk s = true := fun s hs => by
      obtain ⟨r, hr, rfl⟩ := List.mem_map.mp hs
      exact (h1 r (List.mem_filter.mp hr).1).nm
    apply tr_retP
    apply J.to
    · apply j_cmp (P1 := isL (([] : List Str).map isS)) (P2 := isL [])
      · rw [show isL (([] : List Str).map isS) = isL ((names.filter (fun n => !decide (n ∈ (rows.filter (crossRw x y tiny tiny)).map Rw.name))).map isS) by rw [fnil]]
        refine j_comp (jn_filt g (xs := names) (A := isS) (B := isS) (fun n => !decide (n ∈ (rows.filter (crossRw x y tiny tiny)).map Rw.name)) [("_law_name_here", 9)] (ji_list g (P := isL (names.map isS)) (by k_extra "j") lst_L) (by decide +kernel) (by omega) (fun n => [(9, isS n)]) (by simp) ?_ (fun _ => rfl))
        intro n hn G X' g
        have nm := nmOf g ["_law_name_here", "_law_more"] [] (by decide +kernel)
        have nin : CmpR X' .NotIn (isS n) (isL (((rows.filter (crossRw x y tiny tiny)).map Rw.name).map isS)) (!decide (n ∈ (rows.filter (crossRw x y tiny tiny)).map Rw.name)) := cmp_ninSL g (dat_strsL lst_L) (nok n hn) cok
        refine ⟨by k_extra "jgo", ?_, fun _ => by k_extra "j"⟩
        k_extra "t"
      · k_extra "j"
      · exact cmp_eqNil g (dat_strs []) (shp_strs fun _ h => nomatch h) (by decide)
      · exact rfl
    · rfl

end Wd

end

section
set_option maxRecDepth 100000
set_option maxHeartbeats 4000000
namespace Wd
open PySem PySem.Spec L2
/-! ### _law_parents -/
theorem Bx.upss_append (n : Str) : ∀ (xs ys : List Bx), Bx.upss n (xs ++ ys) = Bx.upss n xs ++ Bx.upss n ys
  | [], ys => by rw [Bx.upss]; rfl
  | x :: xs, ys => by rw [List.cons_append, Bx.upss, Bx.upss, Bx.upss_append n xs ys, List.append_assoc]
theorem ups_take {b kd : Bx} {i : Nat} (h : b.kids[i]? = some kd) : Bx.upss b.name (b.kids.take (i + 1)) = Bx.upss b.name (b.kids.take i) ++ [(kd.name, b.name)] ++ kd.ups := by
  rw [take_succ_of h, Bx.upss_append]
  rw [Bx.upss, Bx.upss]
  simp
theorem ups_cut {b kd : Bx} {i : Nat} (h : b.kids[i]? = some kd) : b.ups = Bx.upss b.name (b.kids.take i) ++ [(kd.name, b.name)] ++ kd.ups ++ Bx.upss b.name (b.kids.drop (i + 1)) := by
  rw [Bx.ups_eq, ← ups_take h, ← Bx.upss_append, List.take_append_drop]
theorem tr_head (K : PySem.W.Frag) (b : Bx) : ∃ (kd : Str) (mid : List Pr), isTr K b = isT K (isS kd :: isS b.name :: mid) ∧ (b.isB = true → kd = "box") := by
  cases b with
  | box n s h => exact ⟨"box", _, by rw [isTr]; rfl, fun _ => rfl⟩
  | row n s sp sd go ks => exact ⟨"row", _, by rw [isTr]; rfl, fun h => by cases h⟩
  | col n s sp sd ks => exact ⟨"column", _, by rw [isTr]; rfl, fun h => by cases h⟩
theorem tr_ends (K : PySem.W.Frag) {b : Bx} (h : b.isB = false) : ∃ (kd : Str) (mid : List Pr), kd ≠ "box" ∧ isTr K b = isT K ((isS kd :: isS b.name :: mid) ++ [isT K (b.kids.map (isTr K))]) := by
  cases b with
  | box => cases h
  | row n s sp sd go ks => exact ⟨"row", [isSz K s, isI sp, isS sd, isB go], by decide +kernel, by rw [isTr, isTrs_map]; rfl⟩
  | col n s sp sd ks => exact ⟨"column", [isSz K s, isI sp, isS sd], by decide +kernel, by rw [isTr, isTrs_map]; rfl⟩
theorem atI_end {α : Type} {xs : List α} {x : α} : atI (xs ++ [x]) (-1) = some x := by
  unfold atI ixN
  rw [if_neg (by decide), if_pos (by rw [List.length_append, List.length_singleton]; omega)]
  rw [show (-1 + ((xs ++ [x]).length : Int)).toNat = xs.length by rw [List.length_append, List.length_singleton]; omega]
  show (xs ++ [x])[xs.length]? = some x
  rw [List.getElem?_append_right (Nat.le_refl _), Nat.sub_self]
  rfl
theorem atI_one {α : Type} {x y : α} {xs : List α} : atI (x :: y :: xs) 1 = some y := by
  unfold atI ixN
  rw [if_pos (by decide), if_pos (by simp; omega)]
  rfl
theorem S_law_parents : FnS ["_law_tree_here", "_law_found", "_law_kid"] ["_law_tree_here", "_law_found"] ["_law_tree_here", "_law_found", "_law_kid"] ["_law_parents"] (defScope (topS 106)) := ⟨by decide +kernel⟩
structure PaIn (n : Nat) (b : Bx) (ps : List (Str × Str)) : Prop where
  dep : b.dep ≤ n
  few : b.few
  nd : ((ps ++ b.ups).map (·.1)).Nodup
  len : (ps ++ b.ups).length ≤ 900
def sp_parents (u : Uni) (n : Nat) : Sp := fun vs H Q _ => ∃ (b : Bx) (ps : List (Str × Str)), PaIn n b ps ∧ Pw (ownDK ps) [isTr u.K b] [] (ownDK (ps ++ b.ups)) (fun p => isV (.ref p)) vs H Q
theorem c_law_parents {u : Uni} (Df : Defd u "_law_parents" "_law_parents" (topS 106) []) : ∀ n, Callable u "_law_parents" (n + 1) (sp_parents u n) [] := by
  obtain ⟨f, fd, hm, F⟩ := Df.ex
  have bd := F.bindsN (ps := ["_law_tree_here", "_law_found"]) (fun _ _ _ _ _ _ us hl => match us, hl with | [_, _], _ => rfl)
  have call : ∀ n, FnOk u.P u.w u.K u.mg u.base CX0 (n + 1) f fd ["_law_tree_here", "_law_found"] (sp_parents u n) → Callable u "_law_parents" (n + 1) (sp_parents u n) [] := fun n ok => ⟨f, fd, _, [], hm, F.kp, bd, .nil, ok⟩
  intro n
  refine call n ?_
  induction n with
  | zero => exact fn_own (k := 0) F S_law_parents.scope (fun vs H Q ⟨b, ps, I, _⟩ => absurd I.dep (by have := b.dep_pos; omega)) (fun _ _ _ _ h => h)
  | succ n ih =>
    have rc := call n ih
    refine fn_own (k := n + 1) F S_law_parents.scope ?_ (fun _ _ _ _ h => h)
    rintro vs H Q ⟨b, ps, I, h⟩
    refine ⟨_, _, _, _, _, rfl, h, fun X Z g hf => ?_⟩
    have S := S_law_parents
    have nm := S.nm
    cases hB : b.isB with
    | true =>
      obtain ⟨kd, mid, e1, e2⟩ := tr_head u.K b
      have e2 := e2 hB
      subst e2
      have e0 : b.ups = [] := by cases b <;> first | rfl | cases hB
      rw [e1, e0, List.append_nil]
      apply tr_skip
      · apply JT.to
        · apply jt_cmp
          · apply j_ix g (P1 := isT u.K (isS "box" :: isS b.name :: mid)) (n := 0) (P := isS "box")
            · k_extra "j"
            · k_extra "j"
            · exact ix_T tup_T at_zero
            · exact fun _ _ => rfl
          · k_extra "j"
          · exact cmp_neS
          · exact rfl
        · decide +kernel
      apply tr_retWS g nm
      · exact At.there At.here
      · k_extra "at"
      · exact rfl
      · exact fun p S => rfl
    | false =>
      obtain ⟨kd, mid, e2, e1⟩ := tr_ends u.K hB
      rw [e1]
      obtain ⟨f1, f2⟩ := Bx.few_kids I.few
      apply tr_ifT
      · apply JT.to
        · apply jt_cmp
          · apply j_ix g (P1 := isT u.K ((isS kd :: isS b.name :: mid) ++ [isT u.K (b.kids.map (isTr u.K))])) (n := 0) (P := isS kd)
            · k_extra "j"
            · k_extra "j"
            · exact ix_T tup_T at_zero
            · exact fun _ _ => rfl
          · k_extra "j"
          · exact cmp_neS
          · exact rfl
        · rw [decide_eq_false e2]; rfl
      refine tr_forD g (Ps := b.kids.map (isTr u.K)) (ji_tup g (P := isT u.K (b.kids.map (isTr u.K))) ?_ tup_T) (fun i (a : Unit) => [.val (isT u.K ((isS kd :: isS b.name :: mid) ++ [isT u.K (b.kids.map (isTr u.K))])), .own false (ownDK (ps ++ Bx.upss b.name (b.kids.take i))), .any])
        (fun i a => True) () trivial ?_ ?_ ?_ (fun _ => rfl)
      · apply j_ix g (P1 := isT u.K ((isS kd :: isS b.name :: mid) ++ [isT u.K (b.kids.map (isTr u.K))])) (n := -1)
        · k_extra "j"
        · k_extra "j"
        · exact ix_T tup_T atI_end
        · exact fun _ _ => rfl
      · rw [List.take_zero, Bx.upss, List.append_nil]
        k_extra "sub"
      · rintro i P a G hP _
        obtain ⟨kid, hr, rfl⟩ := getElem_map hP
        have km := List.mem_of_getElem? hr
        obtain ⟨kk, kmid, k1, _⟩ := tr_head u.K kid
        have cut := ups_cut hr
        have nd := I.nd
        have ln := I.len
        rw [cut, ← List.append_assoc, ← List.append_assoc, ← List.append_assoc, List.map_append] at nd
        rw [cut, ← List.append_assoc, ← List.append_assoc, ← List.append_assoc, List.length_append] at ln
        have nd1 := (List.nodup_append.mp nd).1
        have nd2 := nd1
        rw [List.map_append, List.map_append] at nd2
        have nd3 := (List.nodup_append.mp nd2).1
        have fresh : kid.name ∉ (ps ++ Bx.upss b.name (b.kids.take i)).map (·.1) := fun z => (List.nodup_append.mp nd3).2.2 _ z _ (List.mem_singleton.mpr rfl) rfl
        have l1 : (ps ++ Bx.upss b.name (b.kids.take i)).length ≤ 1000 := by
          rw [List.length_append, List.length_append] at ln
          omega
        have I2 : PaIn n kid (ps ++ Bx.upss b.name (b.kids.take i) ++ [(kid.name, b.name)]) := ⟨Bx.dep_kids I.dep kid km, f2 kid km, nd1, by omega⟩
        refine ⟨_, by k_extra "jg", ?_⟩
        refine tr_putK g (i := 1) (l := false) (s := kid.name) (t := b.name) rfl (nm.var (by k_extra "at")) rfl ?_ ?_ fresh l1 rfl ?_
        · apply j_ix g (P1 := isT u.K ((isS kd :: isS b.name :: mid) ++ [isT u.K (b.kids.map (isTr u.K))])) (n := 1)
          · k_extra "j"
          · k_extra "j"
          · exact ix_T tup_T atI_one
          · exact fun _ _ => rfl
        · apply j_ix g (P1 := isTr u.K kid) (n := 1) (P := isS kid.name)
          · k_extra "j"
          · k_extra "j"
          · rw [k1]
            exact ix_T tup_T atI_one
          · exact fun _ _ => rfl
        refine tr_exprM (C0 := ownDK (ps ++ Bx.upss b.name (b.kids.take i) ++ [(kid.name, b.name)])) (C1 := ownDK (ps ++ Bx.upss b.name (b.kids.take i) ++ [(kid.name, b.name)] ++ kid.ups)) (R := fun p => isV (.ref p)) (i := 1) (l := false) ?_ rfl ?_ rfl
        · refine jm_call2 (P := isTr u.K kid) g rc (Nat.le_refl _) rfl (nm.var (by k_extra "at")) rfl (fun vs H Q h => ⟨kid, _, I2, h⟩) ?_ (nm.gl (by k_extra "at")) rfl rfl rfl
          k_extra "j"
        refine tr_turnD () rfl trivial ?_
        rw [ups_take hr, ← List.append_assoc, ← List.append_assoc]
        k_extra "sub"
      · intro _ _
        rw [List.length_map, List.take_length, ← Bx.ups_eq]
        refine tr_end ?_
        apply tr_retWS g nm
        · exact At.there At.here
        · k_extra "at"
        · exact rfl
        · exact fun p S => rfl

end Wd

end

section
set_option maxRecDepth 100000
set_option maxHeartbeats 4000000
namespace Wd
open PySem PySem.Spec L2
theorem S_law_within : FnS ["_law_layout", "_law_parents_here", "_law_places", "_law_name_here", "_law_outer", "_law_one"] ["_law_layout", "_law_parents_here"] ["_law_layout", "_law_parents_here", "_law_places", "_law_name_here", "_law_outer"] ["dict", "_law_less", "list"] (defScope (topS 108)) := ⟨by decide +kernel⟩
structure WiIn (rows : List Rw) (ps : List (Str × Str)) : Prop where
  sm : ∀ r ∈ rows, SmR r
  few : rows.length ≤ 900
  nd : (rows.map Rw.name).Nodup
  ups : ∀ e ∈ ps, ∃ p q, p ∈ rows ∧ q ∈ rows ∧ q.name = e.1 ∧ p.name = e.2 ∧ p.x ≤ q.x ∧ p.y ≤ q.y
theorem eqv_strs (ss : List Str) : PyData.eqv (.list (ss.map .str)) (.list (ss.map .str)) = true := by
  rw [PyData.eqv]
  induction ss with
  | nil => rw [List.map_nil, PyData.eqvAll]
  | cons s ss ih =>
    rw [List.map_cons, PyData.eqvAll, ih, PyData.eqv]
    simp
def sp_within (u : Uni) : Sp := fun vs H Q _ => ∃ (rows : List Rw) (ps : List (Str × Str)), WiIn rows ps ∧ Pf [isL (rows.map (isRw u.K)), isDF ps] (isB true) vs H Q
theorem c_law_within {u : Uni} (bt : Bts u) (c_law_less : Callable u "_law_less" 1 (sp_law_less u) []) (Df : Defd u "_law_within" "_law_within" (topS 108) []) : Callable u "_law_within" 2 (sp_within u) [] := by
  refine fn_pure (k := 1) (ps := ["_law_layout", "_law_parents_here"]) Df S_law_within.scope (fun f fd F => ⟨[], F.bindsN (fun _ _ _ _ _ _ us hl => match us, hl with | [_, _], _ => rfl), .nil⟩) ?_ (fun _ _ _ _ h => h)
  rintro vs H Q ⟨rows, ps, I, h⟩
  refine ⟨_, _, rfl, h, fun X Z hM g hf => ?_⟩
  have S := S_law_within
  have nm := S.nm
  have h1000 : rows.length ≤ 1000 := Nat.le_trans I.few (by decide)
  apply tr_let g hf S (P := isDX rows Rw.name (isRw u.K))
  · k_extra "at"
  · k_extra "at"
  · apply jb_dictX g bt nm (P := isL (rows.map fun r => isTt [isS r.name, isRw u.K r]))
    · k_extra "at"
    · refine j_comp (jn_map g (xs := rows) (A := isRw u.K) (B := fun r => isTt [isS r.name, isRw u.K r]) [("_law_one", 5)] (ji_list g (P := isL (rows.map (isRw u.K))) (by k_extra "j") lst_L) (by decide +kernel) h1000 (fun r => [(5, isRw u.K r)]) (by simp) ?_ (fun _ => rfl))
      intro r hr G X' g
      have nm := nmOf g ["_law_one"] [] (by decide +kernel)
      refine ⟨by k_extra "jgo", ?_⟩
      k_extra "j"
    · exact lst_L
    · exact I.nd
    · exact rfl
  · exact rfl
  · exact rfl
  refine tr_forD g (Ps := ps.map fun e => isTt [isS e.1, isS e.2]) (ji_items g (by k_extra "j") rfl rfl) (fun i (a : Unit) => [.val (isL (rows.map (isRw u.K))), .val (isDF ps), .val (isDX rows Rw.name (isRw u.K)), .any, .any, .any]) (fun i a => True) () trivial (by k_extra "sub") ?_ ?_ (fun _ => rfl)
  · rintro i P a G hP _
    obtain ⟨e, hr, rfl⟩ := getElem_map hP
    obtain ⟨p, q, mp, mq, rfl1, rfl2, le1, le2⟩ := I.ups e (List.mem_of_getElem? hr)
    rw [← rfl1, ← rfl2]
    have hp := I.sm p mp
    have hq := I.sm q mq
    have p1 := hp.x
    have p2 := hp.y
    have q1 := hq.x
    have q2 := hq.y
    refine ⟨_, by k_extra "jg", ?_⟩
    have jd : ∀ {Z Γ a b pos} (y : Rw), y ∈ rows → J X Z Γ a (isDX rows Rw.name (isRw u.K)) → J X Z Γ b (isS y.name) → NoSl b → J X Z Γ (.Subscript a b pos) (isRw u.K y) := fun y hy h1 h2 h3 => j_dgetX g h1 h2 I.nd hy h3
    apply tr_skip
    · apply JT.to (b := decide (q.x < p.x) || decide (q.y < p.y))
      · apply jt_bool
        apply jw_or
        · apply jt_call
          apply jc_law_less g nm c_law_less rfl
          · k_extra "at"
          · apply ja_cons
            · apply j_ix g (P1 := isRw u.K q)
              · apply jd q mq
                · k_extra "j"
                · k_extra "j"
                · exact fun _ _ => rfl
              · k_extra "j"
              · k_extra "ix"
              · exact fun _ _ => rfl
            · apply ja_cons
              · apply j_ix g (P1 := isRw u.K p)
                · apply jd p mp
                  · k_extra "j"
                  · k_extra "j"
                  · exact fun _ _ => rfl
                · k_extra "j"
                · k_extra "ix"
                · exact fun _ _ => rfl
              · k_extra "ja"
              · exact rfl
            · exact rfl
          · exact q1.md
          · exact p1.md
          · exact rfl
          · exact rfl
        · intro _
          apply jw_or1
          apply jt_call
          apply jc_law_less g nm c_law_less rfl
          · k_extra "at"
          · apply ja_cons
            · apply j_ix g (P1 := isRw u.K q)
              · apply jd q mq
                · k_extra "j"
                · k_extra "j"
                · exact fun _ _ => rfl
              · k_extra "j"
              · k_extra "ix"
              · exact fun _ _ => rfl
            · apply ja_cons
              · apply j_ix g (P1 := isRw u.K p)
                · apply jd p mp
                  · k_extra "j"
                  · k_extra "j"
                  · exact fun _ _ => rfl
                · k_extra "j"
                · k_extra "ix"
                · exact fun _ _ => rfl
              · k_extra "ja"
              · exact rfl
            · exact rfl
          · exact q2.md
          · exact p2.md
          · exact rfl
          · exact rfl
      · rw [decide_eq_false (Rat.not_lt.mpr le1), decide_eq_false (Rat.not_lt.mpr le2)]; rfl
    exact tr_turnD () rfl trivial (by k_extra "sub")
  · intro _ _
    have sok : ∀ s ∈ rows.map Rw.name, PyData.strOk s = true := fun s hs => by
      obtain ⟨r, hr, rfl⟩ := List.mem_map.mp hs
      exact (I.sm r hr).nm
    apply tr_retP
    apply J.to
    · apply j_cmp (P1 := isL ((rows.map Rw.name).map isS)) (P2 := isL ((rows.map Rw.name).map isS))
      · rw [show (rows.map Rw.name).map isS = rows.map (isS ∘ Rw.name) from List.map_map ..]
        refine j_comp (jn_map g (xs := rows) (A := isRw u.K) (B := isS ∘ Rw.name) [("_law_one", 5)] (ji_list g (P := isL (rows.map (isRw u.K))) (by k_extra "j") lst_L) (by decide +kernel) h1000 (fun r => [(5, isRw u.K r)]) (by simp) ?_ (fun _ => rfl))
        intro r hr G X' g
        have nm := nmOf g ["_law_one"] [] (by decide +kernel)
        refine ⟨by k_extra "jgo", ?_⟩
        apply J.to
        · k_extra "j"
        · rfl
      · apply jb_listX g bt nm
        · k_extra "at"
        · k_extra "j"
        · exact rfl
      · exact cmp_eqD g (dat_strs _) (dat_strs _) ((shp_strs sok).ok (by decide)) ((shp_strs sok).ok (by decide)) (eqv_strs _)
      · exact rfl
    · rfl

end Wd

end

section
set_option maxRecDepth 100000
set_option maxHeartbeats 4000000
namespace Wd
open PySem PySem.Spec L2
open TL
/-! ### names, plain -/
theorem nodup_le {α : Type} [DecidableEq α] : ∀ {l m : List α}, l.Nodup → (∀ x ∈ l, x ∈ m) → l.length ≤ m.length
  | [], _, _, _ => Nat.zero_le _
  | a :: l, m, nd, h => by
    obtain ⟨n1, n2⟩ := List.nodup_cons.mp nd
    have ha := h a List.mem_cons_self
    have := nodup_le (l := l) (m := m.erase a) n2 fun x hx => (List.mem_erase_of_ne (fun z => by subst z; exact n1 hx)).mpr (h x (List.mem_cons_of_mem _ hx))
    have e := List.length_erase_of_mem ha
    have p : 0 < m.length := List.length_pos_of_mem ha
    rw [List.length_cons]
    omega
def alph : List Nat := signsS.cps.toList
def chS (n : Nat) : Str := ⟨#[alph.getD n 0]⟩
theorem alph_len : alph.length = 36 := by decide +kernel
theorem chS_tl (n : Nat) : (chS n).cps.toList = [alph.getD n 0] := rfl
theorem alph_at {i : Int} (h : 0 ≤ i) (h2 : i < 36) : atI signsS.cps.toList i = some (alph.getD i.toNat 0) := by
  obtain ⟨m, rfl⟩ := Int.eq_ofNat_of_zero_le h
  have lt : m < alph.length := by rw [alph_len]; omega
  refine atI_nat ?_
  rw [Int.toNat_natCast, List.getD_eq_getElem?_getD]
  show alph[m]? = _
  rw [List.getElem?_eq_getElem lt]
  rfl
theorem alph_in {n : Nat} (h : n < 36) : alph.getD n 0 ∈ signsS.cps.toList := by
  rw [List.getD_eq_getElem?_getD, List.getElem?_eq_getElem (by rw [alph_len]; exact h)]
  exact List.getElem_mem _
theorem alph_let : ∀ n : Nat, n < 26 → alph.getD n 0 ∈ lettersS.cps.toList := by decide +kernel
def sgI (base k : Int) : Int := (base / 64 + 11 * k + base / 99991 * k) % 36
def sgs0 (base : Int) : List Str := (List.range 8).map fun k : Nat => chS (sgI base k).toNat
def sgs (base : Int) : List Str := (sgs0 base).set 0 (chS (base / 16 % 26).toNat)
def dgI (t : Nat) : Str := ⟨#[figS.cps.toList.getD t 0]⟩
def keptAt (base : Int) : Str := keptL.getD (base / 4 % 7).toNat ""
def jn (ss : List Str) : Str := Txt.join "" ss
def szH (base : Int) : Int := 1 + base / 3 % 8
def atH (base : Int) : Int := base / 61 % szH base
def modH (base : Int) : Int := if atH base = 0 then 26 else 36
def name0 (base : Int) (t : Nat) : Str :=
  if base % 4 = 0 ∧ t < 8 then jn ((sgs base).take (1 + t))
  else if base % 4 = 1 ∧ t < 10 then cutS (keptAt base) none (some (1 + base / 7 % 5)) ++ dgI t
  else if base % 4 = 2 ∨ 25 < t then jn ((sgs base).take (1 + base / 3 % 5).toNat) ++ numS t
  else jn (((sgs base).set (atH base).toNat (chS ((base / 2311 + t) % modH base).toNat)).take (szH base).toNat)
def lawName (base : Int) (t : Nat) : Str := if name0 base t ∈ keptL then name0 base t ++ "x" else name0 base t
/-- one sign -/
def One (s : Str) : Prop := ∃ c ∈ signsS.cps.toList, s.cps.toList = [c]
theorem one_ch {n : Nat} (h : n < 36) : One (chS n) := ⟨_, alph_in h, rfl⟩
theorem joinL_nil : ∀ ps : List (List Nat), joinL [] ps = ps.flatten
  | [] => rfl
  | [p] => by simp [joinL]
  | p :: q :: r => by rw [joinL, joinL_nil (q :: r), List.nil_append, List.flatten_cons (l := p)]
theorem jn_tl (ss : List Str) : (jn ss).cps.toList = (ss.map tl).flatten := by
  unfold jn
  rw [join_tl, show ("" : Str).cps.toList = [] from rfl, joinL_nil]
theorem ones_len : ∀ {ss : List Str}, (∀ s ∈ ss, One s) → ((ss.map tl).flatten).length = ss.length ∧ ∀ c ∈ (ss.map tl).flatten, c ∈ signsS.cps.toList
  | [], _ => ⟨rfl, fun _ h => by cases h⟩
  | s :: ss, h => by
    obtain ⟨c, h1, h2⟩ := h s List.mem_cons_self
    obtain ⟨h3, h4⟩ := ones_len (ss := ss) fun x hx => h x (List.mem_cons_of_mem _ hx)
    rw [List.map_cons, List.flatten_cons, show tl s = [c] from h2]
    refine ⟨by rw [List.length_append, h3, List.length_singleton, List.length_cons]; omega, fun d hd => ?_⟩
    rcases List.mem_append.mp hd with z | z
    · rw [List.mem_singleton.mp z]; exact h1
    · exact h4 d z
theorem sgs_len (base : Int) : (sgs base).length = 8 := by unfold sgs sgs0; rw [List.length_set, List.length_map, List.length_range]
theorem sgI_lt (base k : Int) : (sgI base k).toNat < 36 := by unfold sgI; omega
theorem sgs_one (base : Int) : ∀ s ∈ sgs base, One s := fun s hs => by
  unfold sgs at hs
  rcases List.mem_or_eq_of_mem_set hs with z | z
  · unfold sgs0 at z
    obtain ⟨k, _, rfl⟩ := List.mem_map.mp z
    exact one_ch (sgI_lt base k)
  · subst z
    exact one_ch (by omega)
theorem sgs_head (base : Int) : ∃ r, sgs base = chS (base / 16 % 26).toNat :: r := by
  unfold sgs sgs0
  exact ⟨_, rfl⟩
/-- what a name is but for the kept words -/
structure P0 (s : Str) : Prop where
  l1 : 1 ≤ s.length
  l8 : s.length ≤ 8
  c0 : ∃ c, s.cps.toList[0]? = some c ∧ c ∈ lettersS.cps.toList
  all : ∀ c ∈ s.cps.toList, c ∈ signsS.cps.toList
theorem P0.ok {s : Str} (h : P0 s) (hk : s ∉ keptL) : NmOk s := ⟨h.l1, h.l8, h.c0, h.all, hk⟩
theorem jn_P0 {ss : List Str} (h : ∀ s ∈ ss, One s) {n : Nat} {r : List Str} (hs : ss = chS n :: r) (hn : n < 26) (hl : ss.length ≤ 8) : P0 (jn ss) := by
  obtain ⟨h1, h2⟩ := ones_len h
  have e := jn_tl ss
  have len : (jn ss).length = ss.length := by rw [len_cps, e, h1]
  refine ⟨by rw [len, hs]; simp, by rw [len]; exact hl, ⟨alph.getD n 0, ?_, alph_let n hn⟩, fun c hc => h2 c (by rw [← e]; exact hc)⟩
  rw [e, hs]
  rfl
theorem P0.app {s t : Str} (h : P0 s) (ht : ∀ c ∈ t.cps.toList, c ∈ signsS.cps.toList) (hl : s.length + t.length ≤ 8) : P0 (s ++ t) := by
  have e : (s ++ t).length = s.length + t.length := by rw [len_cps, app_tl, List.length_append, ← len_cps, ← len_cps]
  obtain ⟨c, h1, h2⟩ := h.c0
  refine ⟨by rw [e]; have := h.l1; omega, by rw [e]; exact hl, ⟨c, by rw [app_tl, List.getElem?_append_left (get_lt h1)]; exact h1, h2⟩, fun d hd => ?_⟩
  rw [app_tl] at hd
  rcases List.mem_append.mp hd with z | z
  · exact h.all d z
  · exact ht d z
theorem fig_signs : ∀ c ∈ figS.cps.toList, c ∈ signsS.cps.toList := by decide +kernel
theorem num_signs {n : Int} (h : 0 ≤ n) (h2 : n ≤ 1000) : ∀ c ∈ (numS n).cps.toList, c ∈ signsS.cps.toList := fun c hc => fig_signs c ((numS_fig h h2).1.all c hc)
theorem kept_P0 : ∀ k ∈ keptL, ∀ n : Nat, n < 6 → 1 ≤ n → 1 ≤ (cutS k none (some (n : Int))).length ∧ (cutS k none (some (n : Int))).length ≤ 5 ∧ ((cutS k none (some (n : Int))).cps.toList[0]?.any fun c => decide (c ∈ lettersS.cps.toList)) = true ∧ ∀ c ∈ (cutS k none (some (n : Int))).cps.toList, c ∈ signsS.cps.toList := by decide +kernel
theorem keptAt_mem (base : Int) : keptAt base ∈ keptL := by
  unfold keptAt
  have : (base / 4 % 7).toNat < keptL.length := by
    show _ < 7
    omega
  rw [List.getD_eq_getElem?_getD, List.getElem?_eq_getElem this]
  exact List.getElem_mem _
theorem cut_P0 (base : Int) : P0 (cutS (keptAt base) none (some (1 + base / 7 % 5))) ∧ (cutS (keptAt base) none (some (1 + base / 7 % 5))).length ≤ 5 := by
  obtain ⟨n, hn⟩ := Int.eq_ofNat_of_zero_le (show 0 ≤ 1 + base / 7 % 5 by omega)
  rw [hn]
  obtain ⟨h1, h2, h3, h4⟩ := kept_P0 _ (keptAt_mem base) n (by omega) (by omega)
  refine ⟨⟨h1, by omega, ?_, h4⟩, h2⟩
  cases q : (cutS (keptAt base) none (some (n : Int))).cps.toList[0]? with
  | none => rw [q] at h3; cases h3
  | some c =>
    rw [q] at h3
    exact ⟨c, rfl, of_decide_eq_true h3⟩
theorem dg_signs : ∀ t : Nat, t < 10 → ∀ c ∈ (dgI t).cps.toList, c ∈ signsS.cps.toList := by decide +kernel
theorem num_len {n : Nat} (h : n < 1000) : (numS (n : Int)).length ≤ 3 := by
  have e := numS_tl (Int.natCast_nonneg n)
  rw [len_cps, show (numS (n : Int)).cps.toList = _ from e, Int.toNat_natCast]
  have : ∀ m : Nat, m < 1000 → (numL m).length ≤ 3 := by decide +kernel
  exact this n h
theorem name0_P0 {base : Int} {t : Nat} (ht : t < 1000) : P0 (name0 base t) := by
  obtain ⟨r, hr⟩ := sgs_head base
  have one := sgs_one base
  have sl := sgs_len base
  unfold name0
  split
  · next c =>
    have : (sgs base).take (1 + t) = chS (base / 16 % 26).toNat :: r.take t := by rw [hr, Nat.add_comm, List.take_succ_cons]
    exact jn_P0 (fun s hs => one s (List.mem_of_mem_take hs)) this (by omega) (by rw [List.length_take]; omega)
  · split
    · next c =>
      obtain ⟨h1, h2⟩ := cut_P0 base
      exact h1.app (dg_signs t c.2) (by have : (dgI t).length = 1 := rfl; omega)
    · split
      · next c =>
        obtain ⟨n, hn⟩ : ∃ n : Nat, 1 + base / 3 % 5 = ((n + 1 : Nat) : Int) ∧ n + 1 ≤ 5 := ⟨(base / 3 % 5).toNat, by omega, by omega⟩
        rw [hn.1, Int.toNat_natCast]
        have : (sgs base).take (n + 1) = chS (base / 16 % 26).toNat :: r.take n := by rw [hr, List.take_succ_cons]
        have p := jn_P0 (fun s hs => one s (List.mem_of_mem_take hs)) this (by omega) (by rw [List.length_take]; omega)
        have pl : (jn ((sgs base).take (n + 1))).length ≤ n + 1 := by
          rw [len_cps, jn_tl, (ones_len (fun s hs => one s (List.mem_of_mem_take hs))).1, List.length_take]
          omega
        have nl := num_len ht
        exact p.app (num_signs (by omega) (by omega)) (by omega)
      · next c =>
        have sz : 1 ≤ szH base ∧ szH base ≤ 8 := by unfold szH; omega
        have am : 0 ≤ atH base ∧ atH base < szH base := ⟨Int.emod_nonneg _ (by omega), Int.emod_lt_of_pos _ (by omega)⟩
        have mm : 0 ≤ (base / 2311 + t) % modH base ∧ (base / 2311 + t) % modH base < modH base := by
          have : 0 < modH base := by unfold modH; split <;> decide
          exact ⟨Int.emod_nonneg _ (by omega), Int.emod_lt_of_pos _ this⟩
        have m36 : ((base / 2311 + t) % modH base).toNat < 36 := by
          have : modH base ≤ 36 := by unfold modH; split <;> decide
          omega
        have one2 : ∀ s ∈ (sgs base).set (atH base).toNat (chS ((base / 2311 + t) % modH base).toNat), One s := fun s hs => by
          rcases List.mem_or_eq_of_mem_set hs with z | z
          · exact one s z
          · subst z; exact one_ch m36
        obtain ⟨k, hk⟩ : ∃ k : Nat, (szH base).toNat = k + 1 := ⟨(szH base).toNat - 1, by omega⟩
        rw [hk]
        by_cases z : atH base = 0
        · have e : (sgs base).set (atH base).toNat (chS ((base / 2311 + t) % modH base).toNat) = chS ((base / 2311 + t) % modH base).toNat :: r := by
            rw [hr, z]; rfl
          have m26 : ((base / 2311 + t) % modH base).toNat < 26 := by
            have : modH base = 26 := by unfold modH; rw [if_pos z]
            omega
          refine jn_P0 (n := ((base / 2311 + t) % modH base).toNat) (r := r.take k) (fun s hs => one2 s (List.mem_of_mem_take hs)) (by rw [e, List.take_succ_cons]) m26 ?_
          rw [List.length_take]; omega
        · obtain ⟨j, hj⟩ : ∃ j : Nat, (atH base).toNat = j + 1 := ⟨(atH base).toNat - 1, by omega⟩
          have e : (sgs base).set (atH base).toNat (chS ((base / 2311 + t) % modH base).toNat) = chS (base / 16 % 26).toNat :: r.set j (chS ((base / 2311 + t) % modH base).toNat) := by
            rw [hr, hj, List.set_cons_succ]
          refine jn_P0 (n := (base / 16 % 26).toNat) (fun s hs => one2 s (List.mem_of_mem_take hs)) (by rw [e, List.take_succ_cons]) (by omega) ?_
          rw [List.length_take]; omega
theorem kept_x : ∀ k ∈ keptL, k.length ≤ 6 ∧ k ++ ("x" : Str) ∉ keptL := by decide +kernel
theorem x_signs : ∀ c ∈ ("x" : Str).cps.toList, c ∈ signsS.cps.toList := by decide +kernel
theorem lawName_ok {base : Int} {t : Nat} (ht : t < 1000) : NmOk (lawName base t) := by
  have p := name0_P0 (base := base) ht
  unfold lawName
  split
  · next c =>
    obtain ⟨h1, h2⟩ := kept_x _ c
    exact (p.app x_signs (by have : ("x" : Str).length = 1 := by decide +kernel
                             omega)).ok h2
  · next c => exact p.ok c
theorem kept_nodig : ∀ k ∈ keptL, ∀ c ∈ k.cps.toList, 57 < c := by decide +kernel
theorem lawName_late {base : Int} {t : Nat} (h : 25 < t) : lawName base t = jn ((sgs base).take (1 + base / 3 % 5).toNat) ++ numS t := by
  have e : name0 base t = jn ((sgs base).take (1 + base / 3 % 5).toNat) ++ numS t := by
    unfold name0
    rw [if_neg (by omega), if_neg (by omega), if_pos (.inr h)]
  have nk : name0 base t ∉ keptL := fun z => by
    have q := kept_nodig _ z
    rw [e, app_tl] at q
    have e2 := numS_tl (Int.natCast_nonneg t)
    rw [show (numS (t : Int)).cps.toList = _ from e2] at q
    obtain ⟨c, hc⟩ := List.exists_mem_of_ne_nil _ (numL_ne (t : Int).toNat)
    have := numL_digits _ c hc
    have := q c (List.mem_append_right _ hc)
    omega
  unfold lawName
  rw [if_neg nk, e]
theorem late_inj {base : Int} {s t : Nat} (hs : 25 < s) (ht : 25 < t) (h : lawName base s = lawName base t) : s = t := by
  rw [lawName_late hs, lawName_late ht] at h
  have e := congrArg (fun x : Str => x.cps.toList) h
  have e : (jn ((sgs base).take (1 + base / 3 % 5).toNat) ++ numS s).cps.toList = (jn ((sgs base).take (1 + base / 3 % 5).toNat) ++ numS t).cps.toList := e
  rw [app_tl, app_tl] at e
  have e2 := List.append_cancel_left e
  have := numS_inj (Int.natCast_nonneg s) (Int.natCast_nonneg t) (str_ext e2)
  omega
/-- so many turns are enough -/
theorem turns_le {base : Int} {found : List Str} {turn : Nat} (h : ∀ t, t < turn → lawName base t ∈ found) : turn ≤ 26 + found.length := by
  have nd : ((List.range (turn - 26)).map fun i => lawName base (26 + i)).Nodup := by
    refine List.pairwise_map.mpr (List.Pairwise.imp_of_mem (fun {a b} _ _ hab z => hab ?_) List.nodup_range)
    have := late_inj (s := 26 + a) (t := 26 + b) (by omega) (by omega) z
    omega
  have := nodup_le nd fun x hx => by
    obtain ⟨i, hi, rfl⟩ := List.mem_map.mp hx
    exact h _ (by have := List.mem_range.mp hi; omega)
  rw [List.length_map, List.length_range] at this
  omega

end Wd

end

section
set_option maxRecDepth 100000
set_option maxHeartbeats 4000000
namespace Wd
open PySem PySem.Spec L2
open TL
section
variable {X : Cx} {Z : Zn} {Γ Γ' : List Ty} {c : Expr} {A B rest : List Stmt} {pos : Pos} {D : Ends}
/-- an if whose two ends meet again -/
theorem tr_ifE {d : Bool} (Γ' : List Ty) (ht : JT X Z Γ c d) (h1 : d = true → Tr X Z Γ A { D with nx := fun σ H => ∃ own, StO Z own Γ' σ H }) (h2 : d = false → Tr X Z Γ B { D with nx := fun σ H => ∃ own, StO Z own Γ' σ H }) (h : Tr X Z Γ' rest D) : Tr X Z Γ (.If c A B pos :: rest) D := by
  refine tr_if ht (fun e => ⟨fun own σ H g => ?_⟩) (fun e => ⟨fun own σ H g => ?_⟩)
  · exact tWs_mono (h1 e own σ H g) (fun σ H ⟨own, g⟩ => h own σ H g) (fun _ _ z => z) (fun _ _ z => z) (fun _ _ z => z)
  · exact tWs_mono (h2 e own σ H g) (fun σ H ⟨own, g⟩ => h own σ H g) (fun _ _ z => z) (fun _ _ z => z) (fun _ _ z => z)
theorem tr_meet (s : Sub Γ Γ') {D' : Ends} (hD : D'.nx = fun σ H => ∃ own, StO Z own Γ' σ H) : Tr X Z Γ [] D' := tr_join (fun own σ H g => g.sub s) hD
end
theorem cutA_to {α : Type} {xs : List α} {n : Int} (h : 0 ≤ n) : cutA xs none (some n) = xs.take n.toNat := by
  obtain ⟨m, rfl⟩ := Int.eq_ofNat_of_zero_le h
  unfold cutA
  rw [show HT.sIx xs.length 0 none = 0 from rfl, HT.sIx_nat, List.drop_zero, Nat.sub_zero, Int.toNat_natCast]
  by_cases q : m ≤ xs.length
  · rw [Nat.min_eq_left q]
  · rw [Nat.min_eq_right (by omega), List.take_of_length_le (Nat.le_refl _), List.take_of_length_le (by omega)]
theorem ones_sum {ss : List Str} (h : ∀ s ∈ ss, One s) (hl : ss.length ≤ 1000) : (ss.map (·.length)).sum + ss.length * ("" : Str).length ≤ 16777216 := by
  have e : ("" : Str).length = 0 := rfl
  have : ∀ ss : List Str, (∀ s ∈ ss, One s) → (ss.map (·.length)).sum = ss.length := by
    intro ss
    induction ss with
    | nil => intro _; rfl
    | cons s ss ih =>
      intro h
      obtain ⟨c, _, h2⟩ := h s List.mem_cons_self
      have l : s.length = 1 := by rw [len_cps, h2]; rfl
      rw [List.map_cons, List.sum_cons, ih fun x hx => h x (List.mem_cons_of_mem _ hx), l, List.length_cons]
      omega
  rw [this ss h, e]
  omega
theorem at_strs {ss : List Str} {j : Int} (h : 0 ≤ j) (h2 : j < ss.length) : atI (ss.map isS) j = some (isS (ss.getD j.toNat "")) := by
  obtain ⟨m, rfl⟩ := Int.eq_ofNat_of_zero_le h
  refine atI_nat ?_
  rw [List.getElem?_map, List.getElem?_eq_getElem (by omega), Int.toNat_natCast, List.getD_eq_getElem?_getD, List.getElem?_eq_getElem (by omega)]
  rfl
theorem P0.sok {s : Str} (h : P0 s) : PyData.strOk s = true := ascii_ok fun c hc => signs_lt c (h.all c hc)
theorem kept_sok : ∀ s ∈ keptL, PyData.strOk s = true := by decide +kernel
theorem S_law_name : FnS ["_law_base", "_law_turn", "_law_some", "_law_signs", "_law_way", "_law_found", "_law_size_here", "_law_at", "_law_k"] ["_law_base", "_law_turn"] ["_law_base", "_law_turn", "_law_some", "_law_signs", "_law_way", "_law_found", "_law_size_here", "_law_at"] ["range", "_law_kept", "str", "int"] (defScope (topS 92)) := ⟨by decide +kernel⟩
def sp_law_name (u : Uni) : Sp := fun vs H Q _ => ∃ (base : Int) (t : Nat), 0 ≤ base ∧ base.natAbs < 2 ^ 200 ∧ t < 900 ∧ Pf [isI base, isI (t : Int)] (isS (lawName base t)) vs H Q
theorem c_law_name {u : Uni} (bt : Bts u) (c_law_kept : Callable u "_law_kept" 1 (sp_law_kept u) []) (Df : Defd u "_law_name" "_law_name" (topS 92) []) : Callable u "_law_name" 2 (sp_law_name u) [] := by
  refine fn_pure (k := 1) (ps := ["_law_base", "_law_turn"]) Df S_law_name.scope (fun f fd F => ⟨[], F.bindsN (fun _ _ _ _ _ _ us hl => match us, hl with | [_, _], _ => rfl), .nil⟩) ?_ (fun _ _ _ _ h => h)
  rintro vs H Q ⟨base, t, b0, b1, t9, h⟩
  refine ⟨_, _, rfl, h, fun X Z hM g hf => ?_⟩
  have S := S_law_name
  have nm := S.nm
  have p0 := name0_P0 (base := base) (t := t) (by omega)
  have one := sgs_one base
  have sl := sgs_len base
  have az : signsS.length ≤ sizeLine := by decide
  apply tr_let g hf S (P := isS signsS)
  · k_extra "at"
  · k_extra "at"
  · exact J.to j_str rfl
  · exact rfl
  · exact rfl
  refine tr_setC g (i := 3) (C := ownL ((sgs0 base).map isS)) ?_ (At.get (by k_extra "at")) (by decide +kernel) (by decide +kernel) rfl rfl (by decide +kernel) ?_
  · rw [show (sgs0 base).map isS = (List.range 8).map (isS ∘ fun k : Nat => chS (sgI base k).toNat) from List.map_map ..]
    refine jl_map g (xs := List.range 8) (A := fun i : Nat => isI (0 + (i : Int))) (B := isS ∘ fun k : Nat => chS (sgI base k).toNat) [("_law_k", 8)] (ji_range1 g (n := 8) bt.range (nm.gl (by k_extra "at")) (J.to j_int rfl) (by decide) rfl) (by decide +kernel) (by decide) (fun i => [(8, isI (0 + (i : Int)))]) (by simp) ?_ (fun _ => rfl)
    intro i hi G X' g
    have hi := List.mem_range.mp hi
    have nm := nmOf g ["_law_k", "_law_base", "_law_some"] [] (by decide +kernel)
    have m1 : CMulW 11 (0 + (i : Int)) := mul_small (by omega) (by omega) (by omega) (by omega)
    have m2 : CMulW (base / 99991) (0 + (i : Int)) := wide_mul (a := 200) (b := 20) (Nat.lt_of_le_of_lt (by omega) b1) (by omega) (by decide) (by decide) (by decide)
    have a1 : atI signsS.cps.toList ((base / 64 + 11 * (0 + (i : Int)) + base / 99991 * (0 + (i : Int))) % 36) = some (alph.getD (sgI base i).toNat 0) := by
      rw [alph_at (by omega) (by omega), Int.zero_add]
      rfl
    refine ⟨by k_extra "jgo", ?_⟩
    apply J.to
    · k_extra "j"
    · rfl
  have a2 : atI signsS.cps.toList (base / 16 % 26) = some (alph.getD (base / 16 % 26).toNat 0) := alph_at (by omega) (by omega)
  have es : ((sgs0 base).map isS).set 0 (isS (chS (base / 16 % 26).toNat)) = (sgs base).map isS := (List.map_set ..).symm
  apply tr_storeA g nm (m := 0) (n := 0) (P := isS (chS (base / 16 % 26).toNat))
  · k_extra "at"
  · k_extra "at"
  · exact rfl
  · apply J.to
    · k_extra "j"
    · rfl
  · k_extra "j"
  · exact rfl
  · exact rfl
  · exact rfl
  · exact rfl
  · exact fun _ => rfl
  rw [show ∀ Γ : List Ty, Γ.set 3 (.own true (ownL (((sgs0 base).map isS).set 0 (isS (chS (base / 16 % 26).toNat))))) = Γ.set 3 (.own true (ownL ((sgs base).map isS))) from fun Γ => by rw [es]]
  k_extra "let"
  have fin : ∀ f : Str, f = name0 base t → True := fun _ _ => trivial
  refine tr_ifE [.val (isI base), .val (isI (t : Int)), .any, .any, .any, .val (isS (name0 base t)), .any, .any, .any] (by k_extra "t") (fun e => ?_) (fun e => ?_) ?_
  · obtain ⟨e1, e2⟩ := and2 e
    have e1 := of_decide_eq_true e1
    have e2 := of_decide_eq_true e2
    have en : name0 base t = jn ((sgs base).take (1 + t)) := by unfold name0; rw [if_pos ⟨e1, by omega⟩]
    rw [en]
    refine tr_frz 3 rfl own_L ?_
    apply tr_let g hf S (P := isS (jn ((sgs base).take (1 + t))))
    · k_extra "at"
    · k_extra "at"
    · apply j_join g (ss := (sgs base).take (1 + t)) (P := isL (((sgs base).take (1 + t)).map isS))
      · k_extra "j"
      · apply J.to
        · k_extra "j"
        · rw [cutA_to (by omega), List.map_take, show ((1 : Int) + (t : Int)).toNat = 1 + t by omega]
      · exact lst_L
      · exact ones_sum (fun s hs => one s (List.mem_of_mem_take hs)) (by rw [List.length_take]; omega)
      · exact rfl
      · exact rfl
      · exact rfl
    · exact rfl
    · exact rfl
    exact tr_meet (by k_extra "sub") rfl
  · have n1 : ¬ (base % 4 = 0 ∧ t < 8) := fun z => by
      rw [decide_eq_true z.1, decide_eq_true (by omega)] at e
      cases e
    refine tr_ifE [.val (isI base), .val (isI (t : Int)), .any, .any, .any, .val (isS (name0 base t)), .any, .any, .any] (by k_extra "t") (fun e => ?_) (fun e => ?_) (tr_meet (Sub.refl _) rfl)
    · obtain ⟨e1, e2⟩ := and2 e
      have e1 := of_decide_eq_true e1
      have e2 := of_decide_eq_true e2
      have en : name0 base t = cutS (keptAt base) none (some (1 + base / 7 % 5)) ++ dgI t := by unfold name0; rw [if_neg n1, if_pos ⟨e1, by omega⟩]
      rw [en]
      have a3 : atI (keptL.map isS) (base / 4 % 7) = some (isS (keptAt base)) := at_strs (by omega) (show base / 4 % 7 < 7 by omega)
      have a4 : atI figS.cps.toList (t : Int) = some (figS.cps.toList.getD t 0) := by
        refine atI_nat ?_
        have : t < figS.cps.toList.length := by rw [fig_tl]; simp; omega
        rw [List.getD_eq_getElem?_getD, List.getElem?_eq_getElem this]
        rfl
      have kz : (keptAt base).length ≤ sizeLine := by have := (kept_x _ (keptAt_mem base)).1; rw [sizeLine_eq]; omega
      have cz := (cut_P0 base).2
      have fz : figS.length ≤ sizeLine := by decide
      have x1 : (cutS (keptAt base) none (some (1 + base / 7 % 5))).length + (dgI t).length ≤ sizeLine := by have : (dgI t).length = 1 := rfl; rw [sizeLine_eq]; omega
      apply tr_let g hf S (P := isS (cutS (keptAt base) none (some (1 + base / 7 % 5)) ++ dgI t))
      · k_extra "at"
      · k_extra "at"
      · apply j_bin
        · apply j_sliceS (s := keptAt base)
          · apply j_ix g (P1 := isL (keptL.map isS))
            · exact j_call0 g c_law_kept (Nat.le_refl _) (fun _ _ _ h => h) (nm.gl (by k_extra "at"))
            · k_extra "j"
            · exact ix_L lst_L a3
            · exact fun _ _ => rfl
          · k_extra "jp"
          · k_extra "jp"
          · exact kz
        · apply J.to
          · apply j_ix g (P1 := isS figS)
            · exact J.to j_str rfl
            · k_extra "j"
            · exact ix_S fz a4
            · exact fun _ _ => rfl
          · rfl
        · exact bin_addS x1
      · exact rfl
      · exact rfl
      exact tr_meet (by k_extra "sub") rfl
    · have n2 : ¬ (base % 4 = 1 ∧ t < 10) := fun z => by
        rw [decide_eq_true z.1, decide_eq_true (by omega)] at e
        cases e
      refine tr_ifE [.val (isI base), .val (isI (t : Int)), .any, .any, .any, .val (isS (name0 base t)), .any, .any, .any] (by k_extra "t") (fun e => ?_) (fun e => ?_) (tr_meet (Sub.refl _) rfl)
      · have e3 : base % 4 = 2 ∨ 25 < t := by
          rcases Bool.or_eq_true_iff.mp e with z | z
          · exact .inl (of_decide_eq_true z)
          · exact .inr (by have := of_decide_eq_true z; omega)
        have en : name0 base t = jn ((sgs base).take (1 + base / 3 % 5).toNat) ++ numS t := by unfold name0; rw [if_neg n1, if_neg n2, if_pos e3]
        rw [en]
        have tl : ((t : Int)).natAbs.log2 < 1920 := log_ok (by omega) (by omega)
        have ol := (ones_len (ss := (sgs base).take (1 + base / 3 % 5).toNat) (fun s hs => one s (List.mem_of_mem_take hs))).1
        have ol2 : (jn ((sgs base).take (1 + base / 3 % 5).toNat)).length ≤ 8 := by rw [len_cps, jn_tl, ol, List.length_take]; omega
        have nl := num_len (show t < 1000 by omega)
        have x2 : (jn ((sgs base).take (1 + base / 3 % 5).toNat)).length + (numS (t : Int)).length ≤ sizeLine := by rw [sizeLine_eq]; omega
        refine tr_frz 3 rfl own_L ?_
        apply tr_let g hf S (P := isS (jn ((sgs base).take (1 + base / 3 % 5).toNat) ++ numS t))
        · k_extra "at"
        · k_extra "at"
        · apply j_bin
          · apply j_join g (ss := (sgs base).take (1 + base / 3 % 5).toNat) (P := isL (((sgs base).take (1 + base / 3 % 5).toNat).map isS))
            · k_extra "j"
            · apply J.to
              · k_extra "j"
              · rw [cutA_to (by omega), List.map_take]
            · exact lst_L
            · exact ones_sum (fun s hs => one s (List.mem_of_mem_take hs)) (by rw [List.length_take]; omega)
            · exact rfl
            · exact rfl
            · exact rfl
          · apply J.to (P := isV (.str (toString (t : Int))))
            · k_extra "j"
            · rfl
          · exact bin_addS x2
        · exact rfl
        · exact rfl
        exact tr_meet (by k_extra "sub") rfl
      · have n3 : ¬ (base % 4 = 2 ∨ 25 < t) := fun z => by
          rcases z with z | z
          · rw [decide_eq_true z] at e; cases e
          · rw [decide_eq_true (show (25 : Int) < (t : Int) by omega), Bool.or_true] at e; cases e
        have en : name0 base t = jn (((sgs base).set (atH base).toNat (chS ((base / 2311 + t) % modH base).toNat)).take (szH base).toNat) := by unfold name0; rw [if_neg n1, if_neg n2, if_neg n3]
        rw [en]
        have sz : 1 ≤ szH base ∧ szH base ≤ 8 := by unfold szH; omega
        have am : 0 ≤ atH base ∧ atH base < szH base := ⟨Int.emod_nonneg _ (by omega), Int.emod_lt_of_pos _ (by omega)⟩
        have mp : 0 < modH base ∧ modH base ≤ 36 := by unfold modH; split <;> decide
        have mm : 0 ≤ (base / 2311 + t) % modH base ∧ (base / 2311 + t) % modH base < modH base := ⟨Int.emod_nonneg _ (by omega), Int.emod_lt_of_pos _ mp.1⟩
        have one2 : ∀ s ∈ (sgs base).set (atH base).toNat (chS ((base / 2311 + t) % modH base).toNat), One s := fun s hs => by
          rcases List.mem_or_eq_of_mem_set hs with z | z
          · exact one s z
          · subst z; exact one_ch (by omega)
        have a5 : atI signsS.cps.toList ((base / 2311 + (t : Int)) % modH base) = some (alph.getD ((base / 2311 + (t : Int)) % modH base).toNat 0) := alph_at mm.1 (by omega)
        have a6 : atI [isI 36, isI 26] (if decide (atH base = 0) = true then 1 else 0) = some (isI (modH base)) := by
          unfold modH
          by_cases z : atH base = 0
          · rw [decide_eq_true z, if_pos rfl, if_pos z]; rfl
          · rw [decide_eq_false z, if_neg (by decide), if_neg z]; rfl
        have sp : 0 < szH base := by omega
        apply tr_let g hf S (P := isI (szH base))
        · k_extra "at"
        · k_extra "at"
        · apply J.to
          · k_extra "j"
          · rfl
        · exact rfl
        · exact rfl
        have sd : CDivW (base / 61) (szH base) := wide_div sp (b := 20) (by omega) (by decide) (by decide)
        apply tr_let g hf S (P := isI (atH base))
        · k_extra "at"
        · k_extra "at"
        · apply J.to
          · k_extra "j"
          · rfl
        · exact rfl
        · exact rfl
        have ea : ∃ m : Nat, atH base = (m : Int) ∧ m < 8 ∧ (atH base).toNat = m := ⟨(atH base).toNat, by omega, by omega, rfl⟩
        obtain ⟨m, em, m8, em2⟩ := ea
        apply tr_storeA g nm (m := m) (n := (m : Int)) (P := isS (chS ((base / 2311 + t) % modH base).toNat))
        · k_extra "at"
        · k_extra "at"
        · exact rfl
        · apply J.to (P := isS ⟨#[alph.getD ((base / 2311 + (t : Int)) % modH base).toNat 0]⟩)
          · apply j_ix g (P1 := isS signsS) (n := (base / 2311 + (t : Int)) % modH base)
            · k_extra "j"
            · apply j_bin (P2 := isI (modH base))
              · k_extra "j"
              · apply j_ix g (P1 := isL [isI 36, isI 26]) (n := if decide (atH base = 0) = true then 1 else 0)
                · k_extra "j"
                · k_extra "j"
                · exact ix_L lst_L a6
                · exact fun _ _ => rfl
              · exact bin_mod mp.1
            · exact ix_S az a5
            · exact fun _ _ => rfl
          · rfl
        · rw [← em]
          k_extra "j"
        · rw [List.length_map, sl]
          unfold ixN
          rw [if_pos (by omega), if_pos (by omega), Int.toNat_natCast]
        · exact rfl
        · exact rfl
        · exact rfl
        · exact fun _ => rfl
        rw [em2] at one2 ⊢
        refine tr_frz 3 rfl own_L ?_
        apply tr_let g hf S (P := isS (jn (((sgs base).set m (chS ((base / 2311 + t) % modH base).toNat)).take (szH base).toNat)))
        · k_extra "at"
        · k_extra "at"
        · apply j_join g (ss := ((sgs base).set m (chS ((base / 2311 + t) % modH base).toNat)).take (szH base).toNat) (P := isL ((((sgs base).set m (chS ((base / 2311 + t) % modH base).toNat)).take (szH base).toNat).map isS))
          · k_extra "j"
          · apply J.to
            · k_extra "j"
            · rw [cutA_to (by omega), List.map_take, List.map_set]
          · exact lst_L
          · exact ones_sum (fun s hs => one2 s (List.mem_of_mem_take hs)) (by rw [List.length_take]; omega)
          · exact rfl
          · exact rfl
          · exact rfl
        · exact rfl
        · exact rfl
        exact tr_meet (by k_extra "sub") rfl
  · have inK : CmpR X .In (isS (name0 base t)) (isL (keptL.map isS)) (decide (name0 base t ∈ keptL)) := cmp_inSL g (dat_strsL lst_L) p0.sok kept_sok
    have x1 : (name0 base t).length + ("x" : Str).length ≤ sizeLine := by
      have := p0.l8
      have e : ("x" : Str).length = 1 := by decide +kernel
      rw [e, sizeLine_eq]; omega
    refine tr_ifE [.val (isI base), .val (isI (t : Int)), .any, .any, .any, .val (isS (lawName base t)), .any, .any, .any] (d := decide (name0 base t ∈ keptL)) ?_ (fun e => ?_) (fun e => ?_) ?_
    · apply jt_cmp (P1 := isS (name0 base t)) (P2 := isL (keptL.map isS))
      · k_extra "j"
      · exact j_call0 g c_law_kept (Nat.le_refl _) (fun _ _ _ h => h) (nm.gl (by k_extra "at"))
      · exact inK
      · exact rfl
    · have en : lawName base t = name0 base t ++ "x" := by unfold lawName; rw [if_pos (of_decide_eq_true e)]
      rw [en]
      k_extra "let"
      exact tr_meet (by k_extra "sub") rfl
    · have en : lawName base t = name0 base t := by unfold lawName; rw [if_neg (of_decide_eq_false e)]
      rw [en]
      exact tr_meet (by k_extra "sub") rfl
    · k_extra "ret"
      rfl

end Wd

end

section
set_option maxRecDepth 100000
set_option maxHeartbeats 4000000
namespace Wd
open PySem PySem.Spec L2
theorem S_law_names : FnS ["_law_base", "_law_count", "_law_found", "_law_turn", "_law_name_here"] ["_law_base", "_law_count"] ["_law_base", "_law_count", "_law_found", "_law_turn", "_law_name_here"] ["len", "_law_name"] (defScope (topS 93)) := ⟨by decide +kernel⟩
structure NsOk (count : Nat) (ns : List Str) : Prop where
  len : ns.length = count
  nd : ns.Nodup
  ok : ∀ n ∈ ns, NmOk n
def sp_law_names (u : Uni) : Sp := fun vs H Q _ => ∃ (base : Int) (count : Nat), 0 ≤ base ∧ base.natAbs < 2 ^ 200 ∧ count ≤ 25 ∧ Pf [isI base, isI (count : Int)] (Pr.ex fun ns : List Str => Pr.and (NsOk count ns) (isL (ns.map isS))) vs H Q
theorem c_law_names {u : Uni} (bt : Bts u) (c_law_name : Callable u "_law_name" 2 (sp_law_name u) []) (Df : Defd u "_law_names" "_law_names" (topS 93) []) : Callable u "_law_names" 3 (sp_law_names u) [] := by
  refine fn_pure (k := 2) (ps := ["_law_base", "_law_count"]) Df S_law_names.scope (fun f fd F => ⟨[], F.bindsN (fun _ _ _ _ _ _ us hl => match us, hl with | [_, _], _ => rfl), .nil⟩) ?_ (fun _ _ _ _ h => h)
  rintro vs H Q ⟨base, count, b0, b1, c25, h⟩
  refine ⟨_, _, rfl, h, fun X Z hM g hf => ?_⟩
  have S := S_law_names
  have nm := S.nm
  k_extra "letN"
  k_extra "let"
  refine tr_whileD g (fun a : List Str × Nat => [.val (isI base), .val (isI (count : Int)), .own true (ownL (a.1.map isS)), .val (isI (a.2 : Int)), .any])
    (fun a => a.1.length ≤ count ∧ a.1.Nodup ∧ (∀ n ∈ a.1, NmOk n) ∧ ∀ t, t < a.2 → lawName base t ∈ a.1) (fun a => 60 - a.2) ([], 0) ⟨Nat.zero_le _, List.nodup_nil, (fun _ h => nomatch h), fun _ h => by cases h⟩ rfl ?_
  rintro ⟨found, turn⟩ ⟨f1, f2, f3, f4⟩
  dsimp only at f1 f2 f3 f4 ⊢
  have tle := turns_le f4
  have lm : (found.map isS).length = found.length := List.length_map ..
  refine ⟨decide ((found.length : Int) < (count : Int)), ?_, fun e => ?_, fun e => ?_⟩
  · refine lookT 2 rfl own_L ?_
    k_extra "t"
  · have e := of_decide_eq_true e
    have t50 : turn < 60 := by omega
    have nk : NmOk (lawName base turn) := lawName_ok (by omega)
    apply tr_let g hf S (P := isS (lawName base turn))
    · k_extra "at"
    · k_extra "at"
    · refine j_call g c_law_name (Nat.le_refl _) (Ps := [isI base, isI (turn : Int)]) (fun vs H Q h => ⟨base, turn, b0, b1, by omega, h⟩) ?_ (nm.gl (by k_extra "at")) rfl rfl
      k_extra "ja"
    · exact rfl
    · exact rfl
    have nin : CmpR X .NotIn (isS (lawName base turn)) (isL (found.map isS)) (!decide (lawName base turn ∈ found)) := cmp_ninSL g (dat_strsL lst_L) nk.ok fun s hs => (f3 s hs).ok
    have szl : (found.map isS).length ≤ 1000 := by rw [lm]; omega
    apply tr_if (d := !decide (lawName base turn ∈ found))
    · refine lookT 2 rfl own_L ?_
      k_extra "t"
    · intro e
      have ni : lawName base turn ∉ found := fun z => by rw [decide_eq_true z] at e; cases e
      k_extra "append"
      refine tr_end ?_
      k_extra "let"
      refine tr_turnD (found ++ [lawName base turn], turn + 1) rfl ⟨⟨?_, ?_, ?_, ?_⟩, ?_⟩ ?_
      · dsimp only
        rw [List.length_append, List.length_singleton]; omega
      · exact List.nodup_append.mpr ⟨f2, by simp, fun a ha b hb => by rw [List.mem_singleton.mp hb]; exact fun z => ni (z ▸ ha)⟩
      · intro n hn
        rcases List.mem_append.mp hn with z | z
        · exact f3 n z
        · rw [List.mem_singleton.mp z]; exact nk
      · intro t ht
        dsimp only at ht ⊢
        by_cases z : t = turn
        · subst z; simp
        · exact List.mem_append_left _ (f4 t (by omega))
      · dsimp only; omega
      · rw [List.map_append]
        k_extra "sub"
    · intro e
      have ni : lawName base turn ∈ found := by
        by_cases z : lawName base turn ∈ found
        · exact z
        · rw [decide_eq_false z] at e; cases e
      refine tr_end ?_
      k_extra "let"
      refine tr_turnD (found, turn + 1) rfl ⟨⟨f1, f2, f3, ?_⟩, ?_⟩ ?_
      · intro t ht
        dsimp only at ht ⊢
        by_cases z : t = turn
        · subst z; exact ni
        · exact f4 t (by omega)
      · dsimp only; omega
      · k_extra "sub"
  · have e := of_decide_eq_false e
    refine tr_frz 2 rfl own_L ?_
    apply tr_retP
    apply J.imp
    · k_extra "j"
    · exact fun S v h => ⟨found, ⟨by omega, f2, f3⟩, h⟩

end Wd

end

section
set_option maxRecDepth 100000
set_option maxHeartbeats 4000000
namespace Wd
open PySem PySem.Spec L2
/-! ### the tree of the law, plain -/
abbrev Kids : Type := List (Option (List Nat))
def leanP (i : Int) : Str := leansL.getD i.toNat ""
def gapP (a : Int) : Int := [0, 0, 1, 2].getD (a / 19 % 4).toNat 0
def mkBx (names : List Str) (row : List Int) (kids : Kids) : Nat → Nat → Bx
  | 0, i => .box (names.getD i "") (lawSizes (row.getD (2 * i) 0) (row.getD (2 * i + 1) 0)) (lawSz (row.getD (2 * i + 1) 0) (row.getD (2 * i) 0 / 17))
  | n + 1, i => match kids.getD i none with
    | none => .box (names.getD i "") (lawSizes (row.getD (2 * i) 0) (row.getD (2 * i + 1) 0)) (lawSz (row.getD (2 * i + 1) 0) (row.getD (2 * i) 0 / 17))
    | some ks => if row.getD (2 * i) 0 / 23 % 5 = 0
      then .col (names.getD i "") (lawSizes (row.getD (2 * i) 0) (row.getD (2 * i + 1) 0)) (lawSz (row.getD (2 * i + 1) 0 / 3) (gapP (row.getD (2 * i) 0))) (leanP (row.getD (2 * i + 1) 0 / 5 % 3)) (ks.map (mkBx names row kids n))
      else .row (names.getD i "") (lawSizes (row.getD (2 * i) 0) (row.getD (2 * i + 1) 0)) (lawSz (row.getD (2 * i + 1) 0 / 3) (gapP (row.getD (2 * i) 0))) (leanP (row.getD (2 * i + 1) 0 / 5 % 3)) (decide (row.getD (2 * i) 0 / 29 % 2 = 1)) (ks.map (mkBx names row kids n))
def pre (kids : Kids) : Nat → Nat → List Nat
  | 0, i => [i]
  | n + 1, i => i :: match kids.getD i none with
    | none => []
    | some ks => (ks.map (pre kids n)).flatten
theorem mk_names (names : List Str) (row : List Int) (kids : Kids) : ∀ n i, (mkBx names row kids n i).names = (pre kids n i).map fun j => names.getD j ""
  | 0, i => by rw [mkBx, Bx.names, pre]; rfl
  | n + 1, i => by
    rw [mkBx, pre]
    cases kids.getD i none with
    | none => rw [Bx.names]; rfl
    | some ks =>
      have e : Bx.namess (ks.map (mkBx names row kids n)) = ((ks.map (pre kids n)).flatten).map fun j => names.getD j "" := by
        rw [Bx.namess_eq, List.map_map, List.map_flatten, List.map_map]
        congr 1
        exact List.map_congr_left fun j _ => mk_names names row kids n j
      dsimp only
      split
      · rw [Bx.names, e, List.map_cons]
      · rw [Bx.names, e, List.map_cons]
theorem deps_max {n : Nat} : ∀ {bs : List Bx}, (∀ b ∈ bs, b.dep ≤ n) → Bx.deps bs ≤ n
  | [], _ => by rw [Bx.deps]; exact Nat.zero_le _
  | b :: bs, h => by
    rw [Bx.deps]
    exact Nat.max_le.mpr ⟨h b List.mem_cons_self, deps_max fun x hx => h x (List.mem_cons_of_mem _ hx)⟩
theorem mk_dep (names : List Str) (row : List Int) (kids : Kids) : ∀ n i, (mkBx names row kids n i).dep ≤ n + 1
  | 0, i => by rw [mkBx, Bx.dep]; omega
  | n + 1, i => by
    rw [mkBx]
    cases kids.getD i none with
    | none => rw [Bx.dep]; omega
    | some ks =>
      have e : Bx.deps (ks.map (mkBx names row kids n)) ≤ n + 1 := deps_max fun b hb => by
        obtain ⟨j, _, rfl⟩ := List.mem_map.mp hb
        exact mk_dep names row kids n j
      dsimp only
      split
      · rw [Bx.dep]; omega
      · rw [Bx.dep]; omega
/-- what the numbers of the boxes and of those in them keep -/
structure KOk (L : Nat) (kids : Kids) (dp : List Nat) (par : Nat → Nat) : Prop where
  pos : 0 < L
  len : kids.length = L
  dlen : dp.length = L
  d0 : dp.getD 0 0 = 1
  d6 : ∀ i, i < L → 1 ≤ dp.getD i 0 ∧ dp.getD i 0 ≤ 6
  kid : ∀ i ks, kids[i]? = some (some ks) → ks.length ≤ 12 ∧ ks.Nodup ∧ ∀ k ∈ ks, k < L ∧ par k = i ∧ dp.getD k 0 = dp.getD i 0 + 1
theorem KOk.leaf (o : Option (List Nat)) (h : o = none ∨ o = some []) : KOk 1 [o] [1] (fun _ => 0) := by
  refine ⟨by decide, rfl, rfl, rfl, fun i hi => ?_, fun i ks e => ?_⟩
  · obtain rfl : i = 0 := by omega
    exact ⟨by decide, by decide⟩
  · cases i with
    | zero =>
      rcases h with h | h <;> subst h <;> cases e
      exact ⟨by decide, List.nodup_nil, fun _ h => by cases h⟩
    | succ i => cases e
theorem KOk.grow {L : Nat} {kids : Kids} {dp : List Nat} {par : Nat → Nat} (h : KOk L kids dp par) {o : Nat} {ks : List Nat} (ho : kids[o]? = some (some ks)) (hl : ks.length < 12) (hd : dp.getD o 0 < 6) (new : Option (List Nat)) (hn : new = none ∨ new = some []) :
    KOk (L + 1) (kids.set o (some (ks ++ [L])) ++ [new]) (dp ++ [dp.getD o 0 + 1]) (fun x => if x = L then o else par x) := by
  have oL : o < L := by rw [← h.len]; exact get_lt ho
  have ge : ∀ i, i < L → (dp ++ [dp.getD o 0 + 1]).getD i 0 = dp.getD i 0 := fun i hi => by
    rw [List.getD_eq_getElem?_getD, List.getElem?_append_left (by rw [h.dlen]; exact hi), ← List.getD_eq_getElem?_getD]
  have gL : (dp ++ [dp.getD o 0 + 1]).getD L 0 = dp.getD o 0 + 1 := by
    rw [List.getD_eq_getElem?_getD, List.getElem?_append_right (by rw [h.dlen]; exact Nat.le_refl _), h.dlen, Nat.sub_self]
    rfl
  refine ⟨by omega, by rw [List.length_append, List.length_set, h.len]; rfl, by rw [List.length_append, h.dlen]; rfl, by rw [ge 0 h.pos]; exact h.d0, fun i hi => ?_, fun i js e => ?_⟩
  · by_cases z : i = L
    · subst z
      rw [gL]
      omega
    · rw [ge i (by omega)]
      exact h.d6 i (by omega)
  · by_cases z : i < L
    · rw [List.getElem?_append_left (by rw [List.length_set, h.len]; exact z)] at e
      rcases getE_set e with ⟨e1, e2⟩ | ⟨e1, e2⟩
      · subst e1
        cases e2
        obtain ⟨k1, k2, k3⟩ := h.kid o ks ho
        refine ⟨by rw [List.length_append, List.length_singleton]; omega, List.nodup_append.mpr ⟨k2, by simp, fun a ha b hb z => ?_⟩, fun k hk => ?_⟩
        · rw [List.mem_singleton.mp hb] at z
          have := (k3 a ha).1
          omega
        · rcases List.mem_append.mp hk with q | q
          · obtain ⟨a1, a2, a3⟩ := k3 k q
            rw [ge k a1, ge o oL, if_neg (by omega)]
            exact ⟨by omega, a2, a3⟩
          · rw [List.mem_singleton.mp q, gL, ge o oL, if_pos rfl]
            exact ⟨by omega, rfl, rfl⟩
      · obtain ⟨k1, k2, k3⟩ := h.kid i js e2
        refine ⟨k1, k2, fun k hk => ?_⟩
        obtain ⟨a1, a2, a3⟩ := k3 k hk
        rw [ge k a1, ge i z, if_neg (by omega)]
        exact ⟨by omega, a2, a3⟩
    · rw [List.getElem?_append_right (by rw [List.length_set, h.len]; omega), List.length_set, h.len] at e
      have : i - L = 0 := by
        have := get_lt e
        simp at this
        omega
      rw [this] at e
      rcases hn with hn | hn <;> subst hn <;> cases e
      exact ⟨by decide, List.nodup_nil, fun _ h => by cases h⟩
def up (par : Nat → Nat) : Nat → Nat → Nat
  | 0, x => x
  | m + 1, x => par (up par m x)
theorem kids_get {kids : Kids} {i : Nat} {ks : List Nat} (h : kids.getD i none = some ks) : kids[i]? = some (some ks) := by
  rw [List.getD_eq_getElem?_getD] at h
  cases e : kids[i]? with
  | none => rw [e] at h; cases h
  | some o => rw [e] at h; exact congrArg some h
section
variable {L : Nat} {kids : Kids} {dp : List Nat} {par : Nat → Nat}
theorem KOk.under (h : KOk L kids dp par) : ∀ n i, i < L → ∀ x ∈ pre kids n i, x < L ∧ ∃ m, up par m x = i ∧ dp.getD x 0 = dp.getD i 0 + m
  | 0, i, hi, x, hx => by
    rw [pre] at hx
    rw [List.mem_singleton.mp hx]
    exact ⟨hi, 0, rfl, rfl⟩
  | n + 1, i, hi, x, hx => by
    rw [pre] at hx
    rcases List.mem_cons.mp hx with rfl | hx
    · exact ⟨hi, 0, rfl, rfl⟩
    · cases hk : kids.getD i none with
      | none => rw [hk] at hx; cases hx
      | some ks =>
        rw [hk] at hx
        obtain ⟨l, hl, hxl⟩ := List.mem_flatten.mp hx
        obtain ⟨k, hkm, rfl⟩ := List.mem_map.mp hl
        obtain ⟨a1, a2, a3⟩ := (h.kid i ks (kids_get hk)).2.2 k hkm
        obtain ⟨b1, m, b2, b3⟩ := KOk.under h n k a1 x hxl
        exact ⟨b1, m + 1, by rw [up, b2, a2], by omega⟩
theorem KOk.pre_nodup (h : KOk L kids dp par) : ∀ n i, i < L → (pre kids n i).Nodup
  | 0, i, _ => by rw [pre]; simp
  | n + 1, i, hi => by
    rw [pre]
    cases hk : kids.getD i none with
    | none => simp
    | some ks =>
      obtain ⟨k1, k2, k3⟩ := h.kid i ks (kids_get hk)
      refine List.nodup_cons.mpr ⟨fun z => ?_, ?_⟩
      · obtain ⟨l, hl, hxl⟩ := List.mem_flatten.mp z
        obtain ⟨k, hkm, rfl⟩ := List.mem_map.mp hl
        obtain ⟨a1, a2, a3⟩ := k3 k hkm
        obtain ⟨b1, m, b2, b3⟩ := h.under n k a1 i hxl
        omega
      · refine List.pairwise_flatten.mpr ⟨fun l hl => ?_, List.pairwise_map.mpr (List.Pairwise.imp_of_mem (fun {a b} ha hb hab x hx y hy e => ?_) k2)⟩
        · obtain ⟨k, hkm, rfl⟩ := List.mem_map.mp hl
          exact KOk.pre_nodup h n k (k3 k hkm).1
        · subst e
          obtain ⟨a1, a2, a3⟩ := k3 a ha
          obtain ⟨b1, b2, b3⟩ := k3 b hb
          obtain ⟨_, m, c1, c2⟩ := h.under n a a1 x hx
          obtain ⟨_, m', d1, d2⟩ := h.under n b b1 x hy
          obtain rfl : m = m' := by omega
          exact hab (c1.symm.trans d1)
theorem KOk.pre_len (h : KOk L kids dp par) (n i : Nat) (hi : i < L) : (pre kids n i).length ≤ L := by
  have := nodup_le (m := List.range L) (h.pre_nodup n i hi) fun x hx => List.mem_range.mpr (h.under n i hi x hx).1
  rw [List.length_range] at this
  exact this
theorem KOk.names_nodup (h : KOk L kids dp par) {names : List Str} (nd : names.Nodup) (hl : L ≤ names.length) (row : List Int) (n i : Nat) (hi : i < L) : (mkBx names row kids n i).names.Nodup := by
  rw [mk_names]
  refine List.pairwise_map.mpr (List.Pairwise.imp_of_mem (fun {a b} ha hb hab e => hab ?_) (h.pre_nodup n i hi))
  have la := (h.under n i hi a ha).1
  have lb := (h.under n i hi b hb).1
  have ga : ∀ j, j < names.length → names[j]? = some (names.getD j "") := fun j hj => by
    rw [List.getD_eq_getElem?_getD, List.getElem?_eq_getElem hj]; rfl
  have : names[a]? = names[b]? := by rw [ga a (by omega), ga b (by omega), e]
  exact (List.getElem?_inj (by omega) nd).mp this
theorem KOk.mk_ok (h : KOk L kids dp par) {names : List Str} (ok : ∀ n ∈ names, NmOk n) (hl : L ≤ names.length) (row : List Int) : ∀ n i, i < L → (mkBx names row kids n i).ok
  | 0, i, hi => by
    have nk : NmOk (names.getD i "") := by
      rw [List.getD_eq_getElem?_getD, List.getElem?_eq_getElem (by omega)]
      exact ok _ (List.getElem_mem _)
    rw [mkBx, Bx.ok]
    exact ⟨nk, lawSizes_ok _ _, (lawSz_b _ _).1, (lawSz_b _ _).2⟩
  | n + 1, i, hi => by
    have nk : NmOk (names.getD i "") := by
      rw [List.getD_eq_getElem?_getD, List.getElem?_eq_getElem (by omega)]
      exact ok _ (List.getElem_mem _)
    rw [mkBx]
    cases hk : kids.getD i none with
    | none =>
      rw [Bx.ok]
      exact ⟨nk, lawSizes_ok _ _, (lawSz_b _ _).1, (lawSz_b _ _).2⟩
    | some ks =>
      obtain ⟨k1, k2, k3⟩ := h.kid i ks (kids_get hk)
      have oks : ∀ bs : List Bx, (∀ b ∈ bs, b.ok) → Bx.oks bs := by
        intro bs
        induction bs with
        | nil => intro _; rw [Bx.oks]; trivial
        | cons b bs ih => intro hb; rw [Bx.oks]; exact ⟨hb b List.mem_cons_self, ih fun x hx => hb x (List.mem_cons_of_mem _ hx)⟩
      have e := oks (ks.map (mkBx names row kids n)) fun b hb => by
        obtain ⟨k, hkm, rfl⟩ := List.mem_map.mp hb
        exact KOk.mk_ok h ok hl row n k (k3 k hkm).1
      have sd : leanP (row.getD (2 * i + 1) 0 / 5 % 3) ∈ leansL := by
        unfold leanP
        have : (row.getD (2 * i + 1) 0 / 5 % 3).toNat < leansL.length := by
          show _ < 3
          omega
        rw [List.getD_eq_getElem?_getD, List.getElem?_eq_getElem this]
        exact List.getElem_mem _
      have ln : (ks.map (mkBx names row kids n)).length ≤ 12 := by rw [List.length_map]; exact k1
      dsimp only
      split
      · rw [Bx.ok]
        exact ⟨nk, lawSizes_ok _ _, (lawSz_b _ _).1, (lawSz_b _ _).2, sd, ln, e⟩
      · rw [Bx.ok]
        exact ⟨nk, lawSizes_ok _ _, (lawSz_b _ _).1, (lawSz_b _ _).2, sd, ln, e⟩
end

end Wd

end

section
set_option maxRecDepth 100000
set_option maxHeartbeats 4000000
namespace Wd
open PySem PySem.Spec L2
def isKd : Option (List Nat) → Pr
  | none => isN
  | some ks => isL (ks.map isNt)
theorem KOk.dep {L : Nat} {kids : Kids} {dp : List Nat} {par : Nat → Nat} (h : KOk L kids dp par) (names : List Str) (row : List Int) : ∀ n i, i < L → dp.getD i 0 + n = 7 → (mkBx names row kids n i).dep ≤ n
  | 0, i, hi, e => by have := (h.d6 i hi).2; omega
  | n + 1, i, hi, e => by
    rw [mkBx]
    cases hk : kids.getD i none with
    | none => rw [Bx.dep]; omega
    | some ks =>
      obtain ⟨k1, k2, k3⟩ := h.kid i ks (kids_get hk)
      have e : Bx.deps (ks.map (mkBx names row kids n)) ≤ n := deps_max fun b hb => by
        obtain ⟨k, hkm, rfl⟩ := List.mem_map.mp hb
        obtain ⟨a1, a2, a3⟩ := k3 k hkm
        exact KOk.dep h names row n k a1 (by omega)
      dsimp only
      split
      · rw [Bx.dep]; omega
      · rw [Bx.dep]; omega
theorem S_law_made : FnS ["_law_names_here", "_law_row_here", "_law_kids", "_law_at", "_law_a", "_law_b", "_law_sizes_here", "_law_inner", "_law_gap", "_law_lean", "_law_kid"] ["_law_names_here", "_law_row_here", "_law_kids", "_law_at"] ["_law_names_here", "_law_row_here", "_law_kids", "_law_at", "_law_a", "_law_b", "_law_sizes_here", "_law_inner", "_law_gap", "_law_lean"] ["_law_sizes", "_law_size", "tuple"] (defScope (topS 97)) := ⟨by decide +kernel⟩
structure MdIn (n : Nat) (names : List Str) (row : List Int) (kids : Kids) (L : Nat) (dp : List Nat) (par : Nat → Nat) (i : Nat) : Prop where
  ok : KOk L kids dp par
  hi : i < L
  hn : dp.getD i 0 + n = 7
  nl : L ≤ names.length
  rl : 2 * L ≤ row.length
  l25 : L ≤ 25
theorem row_at {row : List Int} {j : Nat} (h : j < row.length) : atI (row.map isI) (j : Int) = some (isI (row.getD j 0)) := atI_nat (by
  rw [List.getElem?_map, List.getElem?_eq_getElem h, List.getD_eq_getElem?_getD, List.getElem?_eq_getElem h]; rfl)
theorem row_at1 {row : List Int} {j : Nat} (h : j < row.length) : row[j]? = some (row.getD j 0) := by
  rw [List.getD_eq_getElem?_getD, List.getElem?_eq_getElem h]; rfl
def sp_law_made (u : Uni) (n : Nat) : Sp := fun vs H Q _ => ∃ (names : List Str) (row : List Int) (kids : Kids) (L : Nat) (dp : List Nat) (par : Nat → Nat) (i : Nat), MdIn n names row kids L dp par i ∧ Pf [isL (names.map isS), isL (row.map isI), isL (kids.map isKd), isI (i : Int)] (isTr u.K (mkBx names row kids n i)) vs H Q
theorem c_law_made {u : Uni} (bt : Bts u) (c_law_size : Callable u "_law_size" 1 (sp_law_size u) []) (c_law_sizes : Callable u "_law_sizes" 2 (sp_law_sizes u) []) (Df : Defd u "_law_made" "_law_made" (topS 97) []) : ∀ n, Callable u "_law_made" (n + 3) (sp_law_made u n) [] := by
  have hb : ∀ f fd, FunD u.K "_law_made" "_law_made" (defArgs (topS 97)) (defBody (topS 97)) (defScope (topS 97)) [] [] f fd → ∃ ds, Binds u.K fd ["_law_names_here", "_law_row_here", "_law_kids", "_law_at"] ds ∧ Vals [] ds := fun f fd F => ⟨[], F.bindsN (fun _ _ _ _ _ _ us hl => match us, hl with | [_, _, _, _], _ => rfl), .nil⟩
  intro n
  induction n with
  | zero => exact fn_pure (k := 2) (ps := ["_law_names_here", "_law_row_here", "_law_kids", "_law_at"]) Df S_law_made.scope hb (fun vs H Q ⟨names, row, kids, L, dp, par, i, I, _⟩ => absurd I.hn (by have := (I.ok.d6 i I.hi).2; omega)) (fun _ _ _ _ h => h)
  | succ n ih =>
    refine fn_pure (k := n + 3) (ps := ["_law_names_here", "_law_row_here", "_law_kids", "_law_at"]) Df S_law_made.scope hb ?_ (fun _ _ _ _ h => h)
    rintro vs H Q ⟨names, row, kids, L, dp, par, i, I, h⟩
    refine ⟨_, _, rfl, h, fun X Z hM g hf => ?_⟩
    have S := S_law_made
    have nm := S.nm
    obtain ⟨ok, hi, hn, nl, rl, l25⟩ := I
    have hk1 : Nat.ble 1 (n + 3) = true := Nat.ble_eq_true_of_le (by omega)
    have hk2 : Nat.ble 2 (n + 3) = true := Nat.ble_eq_true_of_le (by omega)
    generalize hA : row.getD (2 * i) 0 = a
    generalize hB : row.getD (2 * i + 1) 0 = b
    have m2 : CMulW 2 (i : Int) := mul_small (by omega) (by omega) (by omega) (by omega)
    have x1 : atI (row.map isI) (2 * (i : Int)) = some (isI a) := by rw [← hA, show 2 * (i : Int) = ((2 * i : Nat) : Int) by omega]; exact row_at (by omega)
    have x2 : atI (row.map isI) (2 * (i : Int) + 1) = some (isI b) := by rw [← hB, show 2 * (i : Int) + 1 = ((2 * i + 1 : Nat) : Int) by omega]; exact row_at (by omega)
    have x3 : atI (names.map isS) (i : Int) = some (isS (names.getD i "")) := at_strs (by omega) (by omega)
    have kl := ok.len
    have x4 : atI (kids.map isKd) (i : Int) = some (isKd (kids.getD i none)) := atI_nat (by
      rw [List.getElem?_map, List.getElem?_eq_getElem (by omega), List.getD_eq_getElem?_getD, List.getElem?_eq_getElem (by omega)]; rfl)
    k_extra "pair"
    apply tr_let g hf S (P := isSz u.K (lawSizes a b))
    · k_extra "at"
    · k_extra "at"
    · apply jc_law_sizes g nm c_law_sizes hk2
      · k_extra "at"
      · k_extra "ja"
      · exact rfl
      · exact rfl
    · exact rfl
    · exact rfl
    have sz1 : ∀ {Z Γ e0 e1 pos p} {n s : Int}, JA X Z Γ [e0, e1] [isI n, isI s] → starEach [e0, e1] X.env = (false, eval e0 X.env) :: starEach [e1] X.env → (backTo pos (starEach [e1] X.env)).any (·.1) = false → J X Z Γ (.Call (.Name "_law_size" p) [e0, e1] [] pos) (isI (lawSz n s)) := fun ha hs hp => jc_law_size g nm c_law_size hk1 (by k_extra "at") ha hs hp
    cases hk : kids.getD i none with
    | none =>
      rw [hk] at x4
      have e : mkBx names row kids (n + 1) i = .box (names.getD i "") (lawSizes a b) (lawSz b (a / 17)) := by rw [mkBx, hk, hA, hB]
      rw [e, isTr]
      apply tr_ifT
      · apply JT.to (b := true)
        · apply jt_cmp (P1 := isN)
          · apply j_ix g (P1 := isL (kids.map isKd))
            · k_extra "j"
            · k_extra "j"
            · exact ix_L lst_L x4
            · exact fun _ _ => rfl
          · k_extra "j"
          · exact cmp_isN nn_N
          · exact rfl
        · rfl
      apply tr_retB
      apply J.imp
      · apply j_tup g (Ps := [isS "box", isS (names.getD i ""), isSz u.K (lawSizes a b), isI (lawSz b (a / 17))])
        · apply ja_cons
          · k_extra "j"
          · apply ja_cons
            · k_extra "j"
            · apply ja_cons
              · k_extra "j"
              · apply ja_cons
                · apply sz1
                  · k_extra "ja"
                  · exact rfl
                  · exact rfl
                · k_extra "ja"
                · exact rfl
              · exact rfl
            · exact rfl
          · exact rfl
        · exact Nat.le_of_ble_eq_true rfl
      · exact fun S v h => tt_T S v h
    | some ks =>
      rw [hk] at x4
      obtain ⟨k1, k2, k3⟩ := ok.kid i ks (kids_get hk)
      have x4 : atI (kids.map isKd) (i : Int) = some (isL (ks.map isNt)) := x4
      apply tr_skip
      · apply JT.to (b := false)
        · apply jt_cmp (P1 := isL (ks.map isNt))
          · apply j_ix g (P1 := isL (kids.map isKd))
            · k_extra "j"
            · k_extra "j"
            · exact ix_L lst_L x4
            · exact fun _ _ => rfl
          · k_extra "j"
          · exact cmp_isN (fun S v h => decide_eq_false fun z => by obtain ⟨_, _, e, _⟩ := h; rw [e] at z; cases z)
          · exact rfl
        · rfl
      apply tr_let g hf S (P := isT u.K ((ks.map (mkBx names row kids n)).map (isTr u.K)))
      · k_extra "at"
      · k_extra "at"
      · apply jb_tuple g bt nm (P := isL ((ks.map (mkBx names row kids n)).map (isTr u.K)))
        · k_extra "at"
        · rw [show (ks.map (mkBx names row kids n)).map (isTr u.K) = ks.map (isTr u.K ∘ mkBx names row kids n) from List.map_map ..]
          refine j_comp (jn_map g (xs := ks) (A := isNt) (B := isTr u.K ∘ mkBx names row kids n) [("_law_kid", 10)] (ji_list g (P := isL (ks.map isNt)) ?_ lst_L) (by decide +kernel) (by omega) (fun k => [(10, isNt k)]) (by simp) ?_ (fun _ => rfl))
          · apply j_ix g (P1 := isL (kids.map isKd))
            · k_extra "j"
            · k_extra "j"
            · exact ix_L lst_L x4
            · exact fun _ _ => rfl
          · intro k hkm G X' g
            have nm := nmOf g ["_law_kid", "_law_names_here", "_law_row_here", "_law_kids"] ["_law_made"] (by decide +kernel)
            obtain ⟨a1, a2, a3⟩ := k3 k hkm
            refine ⟨by k_extra "jgo", ?_⟩
            refine j_call g ih (Nat.le_refl _) (Ps := [isL (names.map isS), isL (row.map isI), isL (kids.map isKd), isI (k : Int)]) (fun vs H Q h => ⟨names, row, kids, L, dp, par, k, ⟨ok, a1, by omega, nl, rl, l25⟩, h⟩) ?_ (nm.gl (by k_extra "at")) rfl rfl
            apply ja_cons
            · k_extra "j"
            · apply ja_cons
              · k_extra "j"
              · apply ja_cons
                · k_extra "j"
                · apply ja_cons
                  · apply J.to
                    · k_extra "j"
                    · rfl
                  · k_extra "ja"
                  · exact rfl
                · exact rfl
              · exact rfl
            · exact rfl
        · exact lst_L
        · exact rfl
      · exact rfl
      · exact rfl
      have x5 : atI [isI 0, isI 0, isI 1, isI 2] (a / 19 % 4) = some (isI (gapP a)) := at_ints (ns := [0, 0, 1, 2]) (by omega) (by simp; omega)
      have x6 : atI [isS "left", isS "amid", isS "right"] (b / 5 % 3) = some (isS (leanP (b / 5 % 3))) := at_strs (ss := leansL) (by omega) (show b / 5 % 3 < 3 by omega)
      apply tr_pair g nm (P1 := isI (lawSz (b / 3) (gapP a))) (P2 := isS (leanP (b / 5 % 3)))
      · k_extra "at"
      · k_extra "at"
      · apply sz1
        · apply ja_cons
          · k_extra "j"
          · apply ja_cons
            · apply j_ix g (P1 := isL [isI 0, isI 0, isI 1, isI 2])
              · k_extra "j"
              · k_extra "j"
              · exact ix_L lst_L x5
              · exact fun _ _ => rfl
            · k_extra "ja"
            · exact rfl
          · exact rfl
        · exact rfl
        · exact rfl
      · apply j_ix g (P1 := isL [isS "left", isS "amid", isS "right"])
        · k_extra "j"
        · k_extra "j"
        · exact ix_L lst_L x6
        · exact fun _ _ => rfl
      · exact rfl
      · exact rfl
      · exact rfl
      · exact rfl
      · exact rfl
      · exact rfl
      · decide +kernel
      · decide +kernel
      · kernel_rfl
      k_extra "if"
      · intro e
        have e := of_decide_eq_true e
        have em : mkBx names row kids (n + 1) i = .col (names.getD i "") (lawSizes a b) (lawSz (b / 3) (gapP a)) (leanP (b / 5 % 3)) (ks.map (mkBx names row kids n)) := by rw [mkBx, hk, hA, hB]; dsimp only; rw [if_pos e]
        rw [em, isTr, isTrs_map]
        apply tr_retB
        apply J.imp
        · k_extra "j"
        · exact fun S v h => tt_T S v h
      · intro e
        have e := of_decide_eq_false e
        have em : mkBx names row kids (n + 1) i = .row (names.getD i "") (lawSizes a b) (lawSz (b / 3) (gapP a)) (leanP (b / 5 % 3)) (decide (a / 29 % 2 = 1)) (ks.map (mkBx names row kids n)) := by rw [mkBx, hk, hA, hB]; dsimp only; rw [if_neg e]
        rw [em, isTr, isTrs_map]
        refine tr_end ?_
        apply tr_retP
        apply J.imp
        · k_extra "j"
        · exact fun S v h => tt_T S v h

end Wd

end

section
set_option maxRecDepth 100000
set_option maxHeartbeats 4000000
namespace Wd
open PySem PySem.Spec L2
theorem S_law_tree : FnS ["_law_script", "_law_most", "_law_row_here", "_law_many", "_law_names_here", "_law_kids", "_law_depths", "_law_at", "_law_some", "_law_outer", "_law_number", "_law_name_here", "_law_one"] ["_law_script", "_law_most"] ["_law_script", "_law_most", "_law_row_here", "_law_many", "_law_names_here", "_law_kids", "_law_depths", "_law_at", "_law_some", "_law_outer"] ["_law_row", "sorted", "zip", "_law_names", "range", "len", "int", "_law_made"] (defScope (topS 98)) := ⟨by decide +kernel⟩
structure TrOk (b : Bx) : Prop where
  ok : b.ok
  dep : b.dep ≤ 6
  nd : b.names.Nodup
  len : b.names.length ≤ 25
theorem isK1_eq : isK1 = isKd := by
  funext o
  cases o <;> rfl
theorem cutA_from {α : Type} {xs : List α} {n : Int} (h : 0 ≤ n) : cutA xs (some n) none = xs.drop n.toNat := by
  obtain ⟨m, rfl⟩ := Int.eq_ofNat_of_zero_le h
  unfold cutA
  rw [HT.sIx_nat, show HT.sIx xs.length xs.length none = xs.length from rfl, Int.toNat_natCast]
  by_cases q : m ≤ xs.length
  · rw [Nat.min_eq_left q, List.take_of_length_le (by rw [List.length_drop]; exact Nat.le_refl _)]
  · rw [Nat.min_eq_right (by omega), List.drop_of_length_le (Nat.le_refl _), List.drop_of_length_le (by omega), List.take_nil]
theorem NsOk.perm {c : Nat} {ns ms : List Str} (h : NsOk c ns) (p : ms.Perm ns) : NsOk c ms := ⟨p.length_eq.trans h.len, p.nodup_iff.mpr h.nd, fun n hn => h.ok n (p.mem_iff.mp hn)⟩
theorem made_ok {names : List Str} {row : List Int} {kids : Kids} {dp : List Nat} {par : Nat → Nat} {L many : Nat} (ns : NsOk many names) (h : KOk L kids dp par) (hm : L ≤ many) (h25 : many ≤ 25) : TrOk (mkBx names row kids 6 0) := by
  have hl : L ≤ names.length := by rw [ns.len]; exact hm
  refine ⟨h.mk_ok ns.ok hl row 6 0 h.pos, h.dep names row 6 0 h.pos (by rw [h.d0]), h.names_nodup ns.nd hl row 6 0 h.pos, ?_⟩
  rw [mk_names, List.length_map]
  have := h.pre_len 6 0 h.pos
  omega
def okKid (kids : Kids) (dp : List Nat) (j : Nat) : Bool := match kids.getD j none with
  | none => false
  | some ks => decide (ks.length < 12) && decide (dp.getD j 0 < 6)
def sp_law_tree (u : Uni) : Sp := fun vs H Q _ => ∃ ss : List Int, ss.length ≤ 63 ∧ Pf [isR u.K (ss.map isI), isI 25] (Pr.ex fun b : Bx => Pr.and (TrOk b) (isTr u.K b)) vs H Q
theorem c_law_tree {u : Uni} (bt : Bts u) (c_law_row : Callable u "_law_row" 1 (sp_law_row u) []) (c_law_names : Callable u "_law_names" 3 (sp_law_names u) []) (c_law_made : Callable u "_law_made" 9 (sp_law_made u 6) [])
    (Df : Defd u "_law_tree" "_law_tree" (topS 98) []) : Callable u "_law_tree" 10 (sp_law_tree u) [] := by
  refine fn_pure (k := 9) (ps := ["_law_script", "_law_most"]) Df S_law_tree.scope (fun f fd F => ⟨[], F.bindsN (fun _ _ _ _ _ _ us hl => match us, hl with | [_, _], _ => rfl), .nil⟩) ?_ (fun _ _ _ _ h => h)
  rintro vs H Q ⟨ss, h63, h⟩
  refine ⟨_, _, rfl, h, fun X Z hM g hf => ?_⟩
  have S := S_law_tree
  have nm := S.nm
  apply tr_let g hf S (P := Pr.ex fun ns : List Int => Pr.and (ns.length = ss.length + 150 ∧ RowB ns) (isL (ns.map isI)))
  · k_extra "at"
  · k_extra "at"
  · refine j_call g c_law_row (by omega) (Ps := [isR u.K (ss.map isI), isI ((150 : Nat) : Int)]) (fun vs H Q h => ⟨ss, 150, by omega, by omega, h⟩) ?_ (nm.gl (by k_extra "at")) rfl rfl
    apply ja_cons
    · k_extra "j"
    · apply ja_cons
      · exact J.to j_int rfl
      · k_extra "ja"
      · exact rfl
    · exact rfl
  · exact rfl
  · exact rfl
  refine tr_ex 2 rfl fun row => tr_and 2 rfl fun ⟨rl, rb⟩ => ?_
  have rat : ∀ j, j < 150 → 0 ≤ row.getD j 0 ∧ row.getD j 0 < 10 ^ 40 := fun j hj => by
    rw [List.getD_eq_getElem?_getD, List.getElem?_eq_getElem (by omega)]
    exact rb _ (List.getElem_mem _)
  have x0 : atI (row.map isI) 0 = some (isI (row.getD 0 0)) := row_at (j := 0) (by omega)
  have x1 : atI (row.map isI) 1 = some (isI (row.getD 1 0)) := row_at (j := 1) (by omega)
  have x2 : atI (row.map isI) 2 = some (isI (row.getD 2 0)) := row_at (j := 2) (by omega)
  have x3 : atI (row.map isI) 3 = some (isI (row.getD 3 0)) := row_at (j := 3) (by omega)
  have x4 : atI (row.map isI) 4 = some (isI (row.getD 4 0)) := row_at (j := 4) (by omega)
  obtain ⟨b0, c0⟩ := rat 2 (by omega)
  generalize row.getD 0 0 = r0 at x0
  generalize row.getD 1 0 = r1 at x1
  generalize row.getD 2 0 = r2 at x2 b0 c0
  generalize row.getD 3 0 = r3 at x3
  generalize row.getD 4 0 = r4 at x4
  have b1 : r2.natAbs < 2 ^ 200 := by
    have : r2.natAbs < 10 ^ 40 := by omega
    exact Nat.lt_of_lt_of_le this (by decide)
  generalize hD : [3, 8, 20, 25].getD (r1 % 4).toNat (0 : Int) = d0
  have xd : atI [isI 3, isI 8, isI 20, isI 25] (r1 % 4) = some (isI d0) := by rw [← hD]; exact at_ints (ns := [3, 8, 20, 25]) (by omega) (by simp; omega)
  have d1 : d0 = 3 ∨ d0 = 8 ∨ d0 = 20 ∨ d0 = 25 := by
    have : (r1 % 4).toNat = 0 ∨ (r1 % 4).toNat = 1 ∨ (r1 % 4).toNat = 2 ∨ (r1 % 4).toNat = 3 := by omega
    rw [← hD]
    rcases this with e | e | e | e <;> rw [e] <;> simp
  obtain ⟨many, hmany⟩ : ∃ many : Nat, (many : Int) = 1 + r0 % d0 % 25 := ⟨(1 + r0 % d0 % 25).toNat, by omega⟩
  have m1 : 1 ≤ many := by omega
  have m25 : many ≤ 25 := by omega
  apply tr_let g hf S (P := isI (many : Int))
  · k_extra "at"
  · k_extra "at"
  · rw [hmany]
    apply j_bin
    · k_extra "j"
    · apply j_bin
      · apply j_bin
        · k_extra "j"
        · apply j_ix g (P1 := isL [isI 3, isI 8, isI 20, isI 25])
          · k_extra "j"
          · k_extra "j"
          · exact ix_L lst_L xd
          · exact fun _ _ => rfl
        · k_extra "bin"
      · k_extra "j"
      · k_extra "bin"
    · k_extra "bin"
  · exact rfl
  · exact rfl
  have l100 : ((row.drop 100)).length = ss.length + 50 := by rw [List.length_drop, rl]; omega
  apply tr_let g hf S (P := someL (NsOk many) isS)
  · k_extra "at"
  · k_extra "at"
  · apply j_step g (φ := NsOk many) (A := isS) (n := [1, -1].getD (r4 % 2).toNat (0 : Int))
    · apply J.imp
      · refine j_mapx g (φ := fun ms : List (Int × Str) => ∃ ss, NsOk many ss ∧ ms.Perm ((row.drop 100).zip ss)) (A := fun m => isTt [isI m.1, isS m.2]) (B := fun m => isS m.2) [("_law_number", 10), ("_law_name_here", 11)] ?_ (by decide +kernel) ?_ (fun m => [(10, isI m.1)] ++ ([(11, isS m.2)] ++ [])) (by simp) ?_ (fun _ => rfl)
        · apply j_sortZip g nm bt.sorted bt.zip
          · k_extra "at"
          · k_extra "at"
          · apply J.to
            · apply j_slL g
              · k_extra "j"
              · exact lst_L
              · k_extra "jp"
              · k_extra "jp"
            · rw [cutA_from (by omega), List.map_drop]; rfl
          · refine j_call g c_law_names (by omega) (Ps := [isI r2, isI (many : Int)]) (fun vs H Q h => ⟨r2, many, b0, b1, m25, h⟩) ?_ (nm.gl (by k_extra "at")) rfl rfl
            k_extra "ja"
          · intro ns hn
            rw [l100, hn.len]
            omega
          · exact rfl
          · exact rfl
          · exact rfl
        · rintro ms ⟨ns, hn, pm⟩
          have := pm.length_eq
          rw [List.length_zip, hn.len] at this
          omega
        · intro m G X' g
          have nm := nmOf g ["_law_number", "_law_name_here"] [] (by decide +kernel)
          refine ⟨by k_extra "jgo", ?_⟩
          k_extra "j"
      · rintro S v ⟨ms, ⟨ns, hn, pm⟩, p⟩
        refine ⟨ms.map (·.2), ?_, ?_⟩
        · refine hn.perm ?_
          have := pm.map (·.2)
          rw [show ((row.drop 100).zip ns).map (·.2) = ns from List.map_snd_zip (by rw [hn.len, l100]; omega)] at this
          exact this
        · rw [List.map_map]; exact p
    · apply j_ix g (P1 := isL [isI 1, isI (-1)])
      · k_extra "j"
      · k_extra "j"
      · exact ix_L lst_L (at_ints (ns := [1, -1]) (by omega) (by simp; omega))
      · exact fun _ _ => rfl
    · have : (r4 % 2).toNat = 0 ∨ (r4 % 2).toNat = 1 := by omega
      rcases this with e | e <;> rw [e] <;> simp
    · exact fun xs hx => hx.perm (List.reverse_perm xs)
  · exact rfl
  · exact rfl
  refine tr_ex 4 rfl fun names => tr_and 4 rfl fun ns => ?_
  refine trk_start g hf 5 6 rfl rfl (by decide +kernel) (by decide +kernel) (by decide) rfl rfl (fun G => jn_lst (ja_cons j_fr ja_nil rfl) (Nat.le_of_ble_eq_true rfl)) (jn_lst (ja_cons j_int ja_nil rfl) (Nat.le_of_ble_eq_true rfl)) ?_ rfl rfl
  refine trk_sub (Γ' := [.val (isR u.K (ss.map isI)), .val (isI 25), .val (isL (row.map isI)), .val (isI (many : Int)), .val (isL (names.map isS)), .any, .any, .any, .any, .any, .any, .any, .any]) (by k_extra "sub") ?_
  have hret : ∀ {Z' : Zn} {Γ' : List Ty} {e0 e1 e2 e3 : Expr} {p pos : Pos} {kids : Kids} {L : Nat} {dp : List Nat} {par : Nat → Nat}, KOk L kids dp par → L ≤ many → J X Z' Γ' e0 (isL (names.map isS)) → J X Z' Γ' e1 (isL ((row.drop 40).map isI)) → J X Z' Γ' e2 (isL (kids.map isKd)) → J X Z' Γ' e3 (isI ((0 : Nat) : Int)) →
      starEach [e0, e1, e2, e3] X.env = (false, eval e0 X.env) :: starEach [e1, e2, e3] X.env → starEach [e1, e2, e3] X.env = (false, eval e1 X.env) :: starEach [e2, e3] X.env → starEach [e2, e3] X.env = (false, eval e2 X.env) :: starEach [e3] X.env → starEach [e3] X.env = (false, eval e3 X.env) :: starEach [] X.env → (backTo pos (starEach [e1, e2, e3] X.env)).any (·.1) = false →
      J X Z' Γ' (.Call (.Name "_law_made" p) [e0, e1, e2, e3] [] pos) (Pr.ex fun b : Bx => Pr.and (TrOk b) (isTr u.K b)) := by
    intro Z' Γ' e0 e1 e2 e3 p pos kids L dp par ok hL j0 j1 j2 j3 s0 s1 s2 s3 hp
    apply J.imp
    · refine j_call g c_law_made (by omega) (Ps := [isL (names.map isS), isL ((row.drop 40).map isI), isL (kids.map isKd), isI ((0 : Nat) : Int)]) (fun vs H Q h => ⟨names, row.drop 40, kids, L, dp, par, 0, ⟨ok, ok.pos, by rw [ok.d0], by rw [ns.len]; exact hL, by rw [List.length_drop]; omega, by omega⟩, h⟩) ?_ (nm.gl (by k_extra "at")) s0 hp
      exact ja_cons j0 (ja_cons j1 (ja_cons j2 (ja_cons j3 ja_nil s3) s2) s1) s0
    · exact fun S v q => ⟨_, made_ok ns ok hL m25, q⟩
  have e40 : cutA (row.map isI) (some 40) none = (row.drop 40).map isI := by rw [cutA_from (by omega), List.map_drop]; rfl
  refine trk_forB g (Ps := rangeP 1 ((many : Int) - 1).toNat) (α := Kids × List Nat × (Nat → Nat)) ?_ (fun a => a.1) (fun a => a.2.1) (fun i a => KOk (i + 1) a.1 a.2.1 a.2.2) ([some []], [1], fun _ => 0) (KOk.leaf (some []) (.inr rfl)) ?_ ?_ (fun _ => rfl)
  · k_extra "ji"
  · rintro i ⟨kids, dp, par⟩ G hi ok
    dsimp only at ok ⊢
    have hL : i + 1 ≤ many := by
      rw [show (rangeP 1 ((many : Int) - 1).toNat).length = ((many : Int) - 1).toNat by unfold rangeP; simp] at hi
      omega
    refine trk_view (noOwn_ok rfl) ?_
    unfold kView
    rw [isK1_eq]
    show Tr X { Z with G := G } [.val (isR u.K (ss.map isI)), .val (isI 25), .val (isL (row.map isI)), .val (isI (many : Int)), .val (isL (names.map isS)), .val (isL (kids.map isKd)), .val (isL (dp.map isNt)), .any, .any, .any, .any, .any, .any] _ _
    apply tr_if (d := decide ((many : Int) = 1) && decide (r3 % 2 = 0))
    · k_extra "t"
    · intro _
      apply tr_let g hf S (P := isL [isN])
      · k_extra "at"
      · k_extra "at"
      · k_extra "j"
      · exact rfl
      · exact rfl
      refine tr_end ?_
      refine tr_retL ?_ rfl
      refine hret (KOk.leaf none (.inl rfl)) (by omega) ?_ ?_ ?_ ?_ rfl rfl rfl rfl rfl
      · k_extra "j"
      · apply J.to
        · k_extra "j"
        · rw [e40]
      · k_extra "j"
      · exact J.to j_int rfl
    · intro _
      refine tr_end ?_
      refine tr_retL ?_ rfl
      refine hret ok hL ?_ ?_ ?_ ?_ rfl rfl rfl rfl rfl
      · k_extra "j"
      · apply J.to
        · k_extra "j"
        · rw [e40]
      · k_extra "j"
      · exact J.to j_int rfl
  · rintro i P ⟨kids, dp, par⟩ G hP ok hr
    dsimp only at ok hr ⊢
    have hP' := rangeP_get hP
    obtain ⟨ilt, rfl⟩ := hP'
    have hL : i + 1 < many := by omega
    refine ⟨[(7, isI ((i + 1 : Nat) : Int))], by simp, ?_, ?_⟩
    · rw [show (1 : Int) + (i : Int) = ((i + 1 : Nat) : Int) by omega]
      k_extra "jg"
    have kl := ok.len
    have dl := ok.dlen
    have kat : ∀ j, j < i + 1 → atI (kids.map isKd) (j : Int) = some (isKd (kids.getD j none)) := fun j hj => atI_nat (by
      rw [List.getElem?_map, List.getElem?_eq_getElem (by omega), List.getD_eq_getElem?_getD, List.getElem?_eq_getElem (by omega)]; rfl)
    have dat : ∀ j, j < i + 1 → atI (dp.map isNt) (j : Int) = some (isI ((dp.getD j 0 : Nat) : Int)) := fun j hj => atI_nat (by
      rw [List.getElem?_map, List.getElem?_eq_getElem (by omega), List.getD_eq_getElem?_getD, List.getElem?_eq_getElem (by omega)]; rfl)
    refine trk_setC g (i := 8) (ns := (List.range (i + 1)).filter (okKid kids dp)) (noOwn_ok rfl) (by decide) (by decide) ?_ rfl (by decide +kernel) (by decide +kernel) rfl rfl (by decide +kernel) ?_
    · unfold kView
      rw [isK1_eq]
      refine jl_filt g (xs := List.range (i + 1)) (A := isNt) (B := isNt) (okKid kids dp) [("_law_one", 12)] ?_ (by decide +kernel) (by simp; omega) (fun j => [(12, isNt j)]) (by simp) ?_ (fun _ => rfl)
      · have e : (List.range (i + 1)).map isNt = rangeP 0 (i + 1) := by
          unfold rangeP
          exact List.map_congr_left fun i _ => by rw [Int.zero_add]
        rw [e]
        have hn : i + 1 ≤ 1000000 := by omega
        k_extra "ji"
      · intro j hj G X' g
        have hj := List.mem_range.mp hj
        have nm := nmOf g ["_law_one", "_law_kids", "_law_depths"] ["len"] (by decide +kernel)
        have k1 := kat j hj
        have k2 := dat j hj
        refine ⟨by k_extra "jgo", ?_, fun _ => by k_extra "j"⟩
        unfold okKid
        cases hk : kids.getD j none with
        | none =>
          rw [hk] at k1
          apply JT.to (b := false)
          · apply jt_bool
            apply jw_andF
            apply JT.to (b := !decide (V.non = V.non))
            · apply jt_cmp (P1 := isN) (P2 := isN)
              · apply j_ix g (P1 := isL (kids.map isKd))
                · k_extra "j"
                · k_extra "j"
                · exact ix_L lst_L k1
                · exact fun _ _ => rfl
              · k_extra "j"
              · exact cmp_isNotN nn_N
              · exact rfl
            · rfl
          · rfl
        | some ks =>
          rw [hk] at k1
          have k1 : atI (kids.map isKd) (j : Int) = some (isL (ks.map isNt)) := k1
          apply JT.to (b := true && (decide ((ks.length : Int) < 12) && decide (((dp.getD j 0 : Nat) : Int) < 6)))
          · apply jt_bool
            apply jw_and
            · apply JT.to (b := !false)
              · apply jt_cmp (P1 := isL (ks.map isNt)) (P2 := isN)
                · apply j_ix g (P1 := isL (kids.map isKd))
                  · k_extra "j"
                  · k_extra "j"
                  · exact ix_L lst_L k1
                  · exact fun _ _ => rfl
                · k_extra "j"
                · exact cmp_isNotN (fun S v h => decide_eq_false fun z => by obtain ⟨_, _, e, _⟩ := h; rw [e] at z; cases z)
                · exact rfl
              · rfl
            · intro _
              apply jw_and
              · apply jt_cmp (P1 := isI (ks.length : Int))
                · apply jb_len g bt nm
                  · k_extra "at"
                  · apply j_ix g (P1 := isL (kids.map isKd))
                    · k_extra "j"
                    · k_extra "j"
                    · exact ix_L lst_L k1
                    · exact fun _ _ => rfl
                  · exact len_L lst_L (List.length_map ..)
                  · exact rfl
                · k_extra "j"
                · exact cmp_lt
                · exact rfl
              · intro _
                apply jw_and1
                apply jt_cmp (P1 := isI ((dp.getD j 0 : Nat) : Int))
                · apply j_ix g (P1 := isL (dp.map isNt))
                  · k_extra "j"
                  · k_extra "j"
                  · exact ix_L lst_L k2
                  · exact fun _ _ => rfl
                · k_extra "j"
                · exact cmp_lt
                · exact rfl
          · rw [Bool.true_and]
            rw [decide_eq_decide.mpr (show ((ks.length : Int) < 12) ↔ ks.length < 12 by omega), decide_eq_decide.mpr (show (((dp.getD j 0 : Nat) : Int) < 6) ↔ dp.getD j 0 < 6 by omega)]
    generalize hsome : (List.range (i + 1)).filter (okKid kids dp) = some1
    have hm : ∀ o ∈ some1, o < i + 1 ∧ okKid kids dp o = true := fun o ho => by
      rw [← hsome] at ho
      obtain ⟨a, b⟩ := List.mem_filter.mp ho
      exact ⟨List.mem_range.mp a, b⟩
    have slen : some1.length ≤ 25 := by
      rw [← hsome]
      refine Nat.le_trans (List.length_filter_le _ _) ?_
      rw [List.length_range]; omega
    have eqS : CmpR X .Eq (isL (some1.map isNt)) (isL []) ((some1.map fun n : Nat => PyData.int (n : Int)).isEmpty) := cmp_eqNil g (dat_L lst_L (DatPs.map (f := isNt) (g := fun n : Nat => PyData.int (n : Int)) (fun _ => dat_I) some1)) (shp_list (n := 0) fun d hd => by obtain ⟨n, _, rfl⟩ := List.mem_map.mp hd; exact shp_int) (by decide)
    refine trk_if (d := (some1.map fun n : Nat => PyData.int (n : Int)).isEmpty) ?_ (fun e => ?_) (fun e => ?_)
    · apply jt_cmp
      · k_extra "j"
      · k_extra "j"
      · exact eqS
      · exact rfl
    · refine trk_break (trk_sub ?_ hr) rfl
      k_extra "sub"
    have spos : 0 < some1.length := by
      cases some1 with
      | nil => cases e
      | cons _ _ => simp
    have x20 : atI (row.map isI) (20 + ((i + 1 : Nat) : Int)) = some (isI (row.getD (20 + (i + 1)) 0)) := by rw [show 20 + ((i + 1 : Nat) : Int) = ((20 + (i + 1) : Nat) : Int) by omega]; exact row_at (by omega)
    have x60 : atI (row.map isI) (60 + ((i + 1 : Nat) : Int)) = some (isI (row.getD (60 + (i + 1)) 0)) := by rw [show 60 + ((i + 1 : Nat) : Int) = ((60 + (i + 1) : Nat) : Int) by omega]; exact row_at (by omega)
    generalize row.getD (20 + (i + 1)) 0 = r20 at x20
    generalize row.getD (60 + (i + 1)) 0 = r60 at x60
    obtain ⟨m, hmm⟩ : ∃ m : Nat, (m : Int) = r20 % (some1.length : Int) := ⟨(r20 % (some1.length : Int)).toNat, Int.toNat_of_nonneg (Int.emod_nonneg _ (by omega))⟩
    have mlt : m < some1.length := by
      have := Int.emod_lt_of_pos r20 (show (0 : Int) < some1.length by omega)
      omega
    have xo : atI (some1.map isNt) (r20 % (some1.length : Int)) = some (isI ((some1.getD m 0 : Nat) : Int)) := by
      rw [← hmm]
      exact atI_nat (by rw [List.getElem?_map, List.getElem?_eq_getElem mlt, List.getD_eq_getElem?_getD, List.getElem?_eq_getElem mlt]; rfl)
    obtain ⟨o1, o2⟩ := hm (some1.getD m 0) (by rw [List.getD_eq_getElem?_getD, List.getElem?_eq_getElem mlt]; exact List.getElem_mem _)
    generalize some1.getD m 0 = o at xo o1 o2
    obtain ⟨ks, hk, kl12, dl6⟩ : ∃ ks, kids[o]? = some (some ks) ∧ ks.length < 12 ∧ dp.getD o 0 < 6 := by
      unfold okKid at o2
      cases hk : kids.getD o none with
      | none => rw [hk] at o2; cases o2
      | some ks =>
        rw [hk] at o2
        dsimp only at o2
        rw [Bool.and_eq_true] at o2
        exact ⟨ks, kids_get hk, of_decide_eq_true o2.1, of_decide_eq_true o2.2⟩
    have slm : (some1.map isNt).length = some1.length := List.length_map ..
    have sne : (some1.length : Int) ≠ 0 := by omega
    refine trk_set g hf 9 (P := isI (o : Int)) rfl (by decide +kernel) (noOwn_ok rfl) (by decide) (by decide) ?_ plain_V ?_ rfl rfl
    · apply j_ix g (P1 := isL (some1.map isNt))
      · k_extra "j"
      · apply j_bin
        · k_extra "j"
        · apply jb_len g bt nm
          · k_extra "at"
          · k_extra "j"
          · exact len_L lst_L slm
          · exact rfl
        · k_extra "bin"
      · exact ix_L lst_L xo
      · exact fun _ _ => rfl
    refine trk_kidapp g rfl (nm.var (by k_extra "at")) (noOwn_ok rfl) (n := i + 1) hk (by omega) ?_ ?_ (fun _ _ => rfl) ?_ rfl rfl rfl rfl rfl
    · k_extra "j"
    · k_extra "j"
    refine trk_dapp g rfl (nm.var (by k_extra "at")) (noOwn_ok rfl) (n := dp.getD o 0 + 1) (by omega) ?_ ?_ rfl rfl rfl rfl rfl
    · apply J.to (P := isI (((dp.getD o 0 : Nat) : Int) + 1))
      · apply j_bin
        · apply j_ix g (P1 := isL (dp.map isNt))
          · k_extra "j"
          · k_extra "j"
          · exact ix_L lst_L (dat o o1)
          · exact fun _ _ => rfl
        · k_extra "j"
        · k_extra "bin"
      · rfl
    refine trk_kapp g rfl (nm.var (by k_extra "at")) (noOwn_ok rfl) (d := decide (0 < r60 % 3)) (by rw [List.length_set]; omega) (fun G => ?_) ?_ rfl rfl rfl rfl rfl
    · apply j_ix g (P1 := isL [isNewL G, isN]) (n := if decide (0 < r60 % 3) = true then 1 else 0)
      · exact j_lst (ja_cons j_fr (ja_cons j_non ja_nil rfl) rfl) (Nat.le_of_ble_eq_true rfl)
      · apply jb_intB g bt nm
        · k_extra "at"
        · k_extra "j"
        · exact rfl
      · refine ix_L lst_L ?_
        cases decide (0 < r60 % 3) <;> rfl
      · exact fun _ _ => rfl
    refine trk_turn (kids.set o (some (ks ++ [i + 1])) ++ [if decide (0 < r60 % 3) = true then none else some []], dp ++ [dp.getD o 0 + 1], fun x => if x = i + 1 then o else par x) rfl ?_ rfl rfl ?_
    · refine ok.grow hk kl12 dl6 _ ?_
      cases decide (0 < r60 % 3)
      · exact .inr rfl
      · exact .inl rfl
    · k_extra "sub"

end Wd

end

section
set_option maxRecDepth 100000
set_option maxHeartbeats 4000000
namespace Wd
open PySem PySem.Spec L2
theorem nm_empty : ¬ NmOk "" := fun h => absurd h.l1 (by decide)
mutual
theorem Bx.ok_names : ∀ {b : Bx}, b.ok → ∀ n ∈ b.names, NmOk n
  | .box n s h, ok, m, hm => by
    rw [Bx.ok] at ok
    rw [Bx.names] at hm
    rw [List.mem_singleton.mp hm]; exact ok.1
  | .row n s sp sd go ks, ok, m, hm => by
    rw [Bx.ok] at ok
    rw [Bx.names] at hm
    rcases List.mem_cons.mp hm with rfl | hm
    · exact ok.1
    · exact Bx.oks_names ok.2.2.2.2.2.2 m hm
  | .col n s sp sd ks, ok, m, hm => by
    rw [Bx.ok] at ok
    rw [Bx.names] at hm
    rcases List.mem_cons.mp hm with rfl | hm
    · exact ok.1
    · exact Bx.oks_names ok.2.2.2.2.2.2 m hm
theorem Bx.oks_names : ∀ {bs : List Bx}, Bx.oks bs → ∀ n ∈ Bx.namess bs, NmOk n
  | [], _, m, hm => by rw [Bx.namess] at hm; cases hm
  | b :: bs, ok, m, hm => by
    rw [Bx.oks] at ok
    rw [Bx.namess] at hm
    rcases List.mem_append.mp hm with hm | hm
    · exact Bx.ok_names ok.1 m hm
    · exact Bx.oks_names ok.2 m hm
end
theorem lookup_of {ps : List (Str × Str)} (nd : (ps.map (·.1)).Nodup) : ∀ e ∈ ps, ps.lookup e.1 = some e.2 := by
  induction ps with
  | nil => intro e he; cases he
  | cons p ps ih =>
    intro e he
    rw [List.map_cons] at nd
    obtain ⟨n1, n2⟩ := List.nodup_cons.mp nd
    rcases List.mem_cons.mp he with rfl | he2
    · rw [List.lookup_cons_self]
    · have ne : (e.1 == p.1) = false := beq_eq_false_iff_ne.mpr fun z => n1 (by rw [← z]; exact List.mem_map_of_mem he2)
      obtain ⟨p1, p2⟩ := p
      rw [List.lookup_cons, ne]
      exact ih n2 e he2
theorem lookup_not {ps : List (Str × Str)} {k : Str} (h : k ∉ ps.map (·.1)) : ps.lookup k = none := by
  induction ps with
  | nil => rfl
  | cons p ps ih =>
    obtain ⟨p1, p2⟩ := p
    rw [List.map_cons] at h
    have ne : (k == p1) = false := beq_eq_false_iff_ne.mpr fun z => h (by rw [z]; exact List.mem_cons_self)
    rw [List.lookup_cons, ne]
    exact ih fun z => h (List.mem_cons_of_mem _ z)
theorem Bx.keys (b : Bx) : b.names = b.name :: b.ups.map (·.1) := by rw [Bx.ups_eq, Bx.upss_fst, Bx.names_eq]
structure LyOk (b : Bx) (rows : List Rw) : Prop where
  laid : ∃ r rest, rows = r :: rest ∧ Laid b r rest
  sn : ∀ r ∈ rows, RwSn r
section
variable {b : Bx} {rows : List Rw}
theorem LyOk.names (h : LyOk b rows) : rows.map Rw.name = b.names := by
  obtain ⟨⟨r, rest, rfl, l⟩, _⟩ := h
  exact l.names
theorem LyOk.sm (h : LyOk b rows) (t : TrOk b) : ∀ r ∈ rows, SmR r := fun r hr => ⟨(h.sn r hr).x.sm, (h.sn r hr).y.sm, (h.sn r hr).w.sm, (h.sn r hr).h.sm, (Bx.ok_names t.ok r.name (by rw [← h.names]; exact List.mem_map_of_mem hr)).ok⟩
theorem LyOk.len (h : LyOk b rows) (t : TrOk b) : rows.length ≤ 25 := by
  rw [← List.length_map (f := Rw.name), h.names]; exact t.len
theorem LyOk.nd (h : LyOk b rows) (t : TrOk b) : (rows.map Rw.name).Nodup := by rw [h.names]; exact t.nd
theorem LyOk.ne (h : LyOk b rows) : rows ≠ [] := by
  obtain ⟨⟨r, rest, rfl, l⟩, _⟩ := h
  exact fun z => nomatch z
theorem LyOk.wi (h : LyOk b rows) (t : TrOk b) : WiIn rows b.ups := by
  refine ⟨h.sm t, Nat.le_trans (h.len t) (by decide), h.nd t, fun e he => ?_⟩
  obtain ⟨⟨r, rest, rfl, l⟩, _⟩ := h
  obtain ⟨p, q, h1, h2, h3, h4, h5, h6⟩ := l.after t.nd e he
  exact ⟨p, q, h1, List.mem_cons_of_mem _ h2, h3, h4, h5, h6⟩
theorem LyOk.rt (h : LyOk b rows) (t : TrOk b) {x y : Rat} (hx : Sm x) (hy : Sm y) : RtIn rows b.ups x y := by
  refine ⟨h.sm t, Nat.le_trans (h.len t) (by decide), h.nd t, hx, hy, ?_⟩
  obtain ⟨⟨r, rest, rfl, l⟩, _⟩ := h
  have nd := t.nd
  rw [Bx.keys] at nd
  obtain ⟨n1, n2⟩ := List.nodup_cons.mp nd
  refine Laid.ups_nodup (up := fun n => (b.ups.lookup n).getD "") l (fun e he => ?_) ?_ t.nd x y
  · rw [lookup_of n2 e he]; rfl
  · rw [lookup_not n1]
    exact fun z => nm_empty (Bx.ok_names t.ok "" z)
theorem TrOk.pa (t : TrOk b) : PaIn 6 b [] := by
  have nd := t.nd
  have len := t.len
  rw [Bx.keys] at nd len
  refine ⟨t.dep, Bx.ok_few t.ok, (List.nodup_cons.mp nd).2, ?_⟩
  rw [List.nil_append]
  rw [List.length_cons, List.length_map] at len
  omega
end
theorem LyOk.of {b : Bx} {W : Rat} {D M : Nat} {q : Rw × List Rw} (h : PlIn 6 D M b W) (k : PlOk 6 D M b W q.1 q.2) : LyOk b (q.1 :: q.2) := by
  refine ⟨⟨_, _, rfl, k.laid⟩, fun r hr => (k.rb r hr).sn h.d (Nat.lt_of_lt_of_le h.m (Nat.pow_le_pow_right (by decide) (by decide))) (Nat.lt_of_lt_of_le (Tn_small (Nat.le_refl 6)) (Nat.pow_le_pow_right (by decide) (by decide)))⟩
theorem wok_pl {b : Bx} {W : Rat} (t : TrOk b) (w : WOk W) : ∃ D M, PlIn 6 D M b W := by
  obtain ⟨w0, d, d1, d2, bd⟩ := w
  refine ⟨LL * d, 10 ^ 20, t.ok, t.dep, Nat.le_trans t.len (by decide), w0, bd, ⟨d, rfl⟩, ?_, ?_, Nat.le_refl _⟩
  · refine Nat.lt_of_le_of_lt (Nat.mul_le_mul_right _ (Nat.mul_le_mul_left _ d2)) ?_
    decide +kernel
  · decide +kernel
/-- a layout of b -/
def isLy (u : Uni) (b : Bx) : Pr := Pr.ex fun rows : List Rw => Pr.and (LyOk b rows) (isL (rows.map (isRw u.K)))

end Wd

end

section
set_option maxRecDepth 100000
set_option maxHeartbeats 4000000
namespace Wd
open PySem PySem.Spec L2
theorem tr_subG {X : Cx} {Z : Zn} {Γ Γ' : List Ty} {sts : List Stmt} {D : Ends} (s : Sub Γ Γ') (h : Tr X Z Γ' sts D) : Tr X Z Γ sts D := ⟨fun own σ H g => h own σ H (g.sub s)⟩
theorem S_law : FnS ["_law_script", "_law_row_here", "_law_tree_here", "_law_parents_here", "_law_made_here", "_law_k", "_law_layouts", "_law_layout", "_law_x", "_law_y"] ["_law_script"] ["_law_script", "_law_row_here", "_law_tree_here", "_law_parents_here", "_law_made_here", "_law_k", "_law_layouts", "_law_layout", "_law_x", "_law_y"] ["_law_row", "_law_tree", "_law_parents", "read_box", "written", "box_of", "range", "len", "_law_spot", "_law_right"] (defScope (topS 109)) := ⟨by decide +kernel⟩
def sp_law (u : Uni) : Sp := fun vs H Q _ => ∃ ss : List Int, ss.length ≤ 63 ∧ Pf [isR u.K (ss.map isI)] (isB true) vs H Q
theorem c_law {u : Uni} {c : Cl} {f0 : Addr} {fd0 : FuncData} (bt : Bts u) (c_law_row : Callable u "_law_row" 1 (sp_law_row u) []) (c_law_tree : Callable u "_law_tree" 10 (sp_law_tree u) []) (c_law_parents : Callable u "_law_parents" 7 (sp_parents u 6) []) (c_read_box : Callable u "read_box" 16 (sp_read_box u c) []) (c_written : Callable u "written" 15 (sp_written u c) []) (c_box_of : Callable u "box_of" 12 (sp_box_of u c) [])
    (c_laid : Callable u "laid" 25 (sp_placed u c 6) []) (c_law_width : Callable u "_law_width" 3 (sp_law_width u) []) (c_law_within : Callable u "_law_within" 2 (sp_within u) []) (c_law_spot : Callable u "_law_spot" 4 (sp_law_spot u) []) (c_law_right : Callable u "_law_right" 7 (sp_law_right u) [])
    (F : FunD u.K "law" "law" (defArgs (topS 109)) (defBody (topS 109)) (defScope (topS 109)) [] [] f0 fd0) : FnOk u.P u.w u.K u.mg u.base CX0 26 f0 fd0 ["_law_script"] (sp_law u) := by
  refine fn_pureF (k := 25) F S_law.scope ?_ (fun _ _ _ _ h => h)
  rintro vs H Q ⟨ss, h63, h⟩
  refine ⟨_, _, rfl, h, fun X Z hM g hf => ?_⟩
  have S := S_law
  have nm := S.nm
  apply tr_let g hf S (P := Pr.ex fun ns : List Int => Pr.and (ns.length = ss.length + 20 ∧ RowB ns) (isL (ns.map isI)))
  · k_extra "at"
  · k_extra "at"
  · refine j_call g c_law_row (by omega) (Ps := [isR u.K (ss.map isI), isI ((20 : Nat) : Int)]) (fun vs H Q h => ⟨ss, 20, by omega, by omega, h⟩) ?_ (nm.gl (by k_extra "at")) rfl rfl
    apply ja_cons
    · k_extra "j"
    · apply ja_cons
      · exact J.to j_int rfl
      · k_extra "ja"
      · exact rfl
    · exact rfl
  · exact rfl
  · exact rfl
  refine tr_ex 1 rfl fun row => tr_and 1 rfl fun ⟨rl, rb⟩ => ?_
  have rat : ∀ j, j < row.length → 0 ≤ row.getD j 0 ∧ row.getD j 0 < 10 ^ 40 := fun j hj => by
    rw [List.getD_eq_getElem?_getD, List.getElem?_eq_getElem hj]
    exact rb _ (List.getElem_mem _)
  have small : ∀ n : Int, 0 ≤ n ∧ n < 10 ^ 40 → n.natAbs < 2 ^ 200 := fun n hn => by
    have : n.natAbs < 10 ^ 40 := by omega
    exact Nat.lt_of_lt_of_le this (by decide)
  apply tr_let g hf S (P := Pr.ex fun b : Bx => Pr.and (TrOk b) (isTr u.K b))
  · k_extra "at"
  · k_extra "at"
  · refine j_call g c_law_tree (by omega) (Ps := [isR u.K (ss.map isI), isI 25]) (fun vs H Q h => ⟨ss, h63, h⟩) ?_ (nm.gl (by k_extra "at")) rfl rfl
    k_extra "ja"
  · exact rfl
  · exact rfl
  refine tr_ex 2 rfl fun b => tr_and 2 rfl fun t => ?_
  apply tr_letN g hf S (C := ownDK b.ups)
  · k_extra "at"
  · k_extra "at"
  · refine jn_callD g c_law_parents (by omega) (P := isTr u.K b) (C1 := ownDK b.ups) (fun vs H Q h => ⟨b, [], t.pa, h⟩) ?_ (nm.gl (by k_extra "at")) rfl rfl rfl
    k_extra "j"
  · exact rfl
  · exact rfl
  apply tr_let g hf S (P := isBx c u.K b)
  · k_extra "at"
  · k_extra "at"
  · refine j_call g c_read_box (by omega) (Ps := [isS (textOf (b.rows 0))]) (fun vs H Q h => ⟨b, t.ok, t.dep, t.nd, Nat.le_trans t.len (by decide), h⟩) (ja_cons ?_ ja_nil rfl) (nm.gl (by k_extra "at")) rfl rfl
    refine j_call g c_written (by omega) (Ps := [isBx c u.K b]) (fun vs H Q h => ⟨b, t.ok, t.dep, Nat.le_trans t.len (by decide), h⟩) (ja_cons ?_ ja_nil rfl) (nm.gl (by k_extra "at")) rfl rfl
    refine j_call g c_box_of (by omega) (Ps := [isTr u.K b]) (fun vs H Q h => ⟨b, t.ok, t.dep, t.nd, Nat.le_trans t.len (by decide), h⟩) (ja_cons ?_ ja_nil rfl) (nm.gl (by k_extra "at")) rfl rfl
    k_extra "j"
  · exact rfl
  · exact rfl
  refine tr_subG (Γ' := [.val (isR u.K (ss.map isI)), .val (isL (row.map isI)), .val (isTr u.K b), .own true (ownDK b.ups), .val (isBx c u.K b), .any, .any, .any, .any, .any]) (by k_extra "sub") ?_
  have lr : (row.map isI).length = row.length := List.length_map ..
  have rmap : ∀ j, j < row.length → atI (row.map isI) (j : Int) = some (isI (row.getD j 0)) := fun j hj => row_at hj
  have x2 : atI (row.map isI) 2 = some (isI (row.getD 2 0)) := row_at (j := 2) (by omega)
  obtain ⟨n, hn⟩ : ∃ n : Nat, (n : Int) = 1 + row.getD 2 0 % 6 := ⟨(1 + row.getD 2 0 % 6).toNat, by omega⟩
  have n1 : 1 ≤ n := by omega
  have n6 : n ≤ 6 := by omega
  refine tr_setC g (i := 6) (C := ownL ((List.range n).map fun _ => isLy u b)) ?_ (At.get (by k_extra "at")) (by decide +kernel) (by decide +kernel) rfl rfl (by decide +kernel) ?_
  · refine jl_map g (xs := List.range n) (A := isNt) (B := fun _ => isLy u b) [("_law_k", 5)] ?_ (by decide +kernel) (by simp; omega) (fun j => [(5, isNt j)]) (by simp) ?_ (fun _ => rfl)
    · have e : (List.range n).map isNt = rangeP 0 n := by
        unfold rangeP
        exact List.map_congr_left fun i _ => by rw [Int.zero_add]
      rw [e]
      apply ji_range1 g bt.range
      · k_extra "gl"
      · rw [hn]
        k_extra "j"
      · omega
      · exact rfl
    · intro j hj G X' g
      have hj := List.mem_range.mp hj
      have nm := nmOf g ["_law_k", "_law_made_here", "_law_row_here"] ["laid", "_law_width"] (by decide +kernel)
      have k1 := rmap j (by omega)
      have k2 : atI (row.map isI) ((j : Int) + 1) = some (isI (row.getD (j + 1) 0)) := by rw [show (j : Int) + 1 = ((j + 1 : Nat) : Int) by omega]; exact rmap (j + 1) (by omega)
      have q1 := rat j (by omega)
      have q2 := rat (j + 1) (by omega)
      refine ⟨by k_extra "jgo", ?_⟩
      refine j_call g c_laid (by omega) (Ps := [isBx c u.K b, Pr.ex fun q : Rat => Pr.and (WOk q) (isPt u.K q)]) (fun vs H Q ⟨own, dm, al, qq⟩ => ?_) (ja_cons (by k_extra "j") (ja_cons ?_ ja_nil rfl) rfl) (nm.gl (by k_extra "at")) rfl rfl
      · obtain ⟨v, w, rfl, e1, W, hW, e2⟩ := all2 al
        obtain ⟨D, M, pi⟩ := wok_pl t hW
        exact ⟨b, W, D, M, pi, own, dm, .cons e1 (.cons e2 .nil), fun v' H' s ⟨q, po, p⟩ => qq v' H' s ⟨q.1 :: q.2, LyOk.of pi po, p⟩⟩
      · refine j_call g c_law_width (by omega) (Ps := [isI (row.getD j 0), isI (row.getD (j + 1) 0)]) (fun vs H Q h => ⟨_, _, q1.1, q2.1, small _ q1, small _ q2, h⟩) ?_ (nm.gl (by k_extra "at")) rfl rfl
        k_extra "ja"
  refine tr_frz 6 rfl own_L ?_
  have ll : ((List.range n).map fun _ => isLy u b).length = n := by rw [List.length_map, List.length_range]
  apply tr_skip
  · refine lookK 3 rfl ?_
    apply JT.to (b := !(([] : List Str).map PyData.str).isEmpty)
    · apply jt_cmp (P1 := isL []) (P2 := isL [])
      · refine J.to (P := isL (((List.range n).filter fun _ => false).map fun _ => isLy u b)) ?_ (by rw [show ((List.range n).filter fun _ => false) = [] from List.filter_eq_nil_iff.mpr fun _ _ z => nomatch z]; rfl)
        refine j_comp (jn_filt g (xs := List.range n) (A := fun _ => isLy u b) (B := fun _ => isLy u b) (fun _ => false) [("_law_layout", 7)] (ji_list g (P := isL ((List.range n).map fun _ => isLy u b)) (by k_extra "j") lst_L) (by decide +kernel) (by simp; omega) (fun j => [(7, isLy u b)]) (by simp) ?_ (fun _ => rfl))
        intro j hj G X' g
        have nm := nmOf g ["_law_layout", "_law_parents_here"] ["_law_within"] (by decide +kernel)
        refine ⟨by k_extra "jgo", ?_, fun z => nomatch z⟩
        apply JT.to (b := !true)
        · apply jt_not
          apply jt_call
          refine j_call g c_law_within (by omega) (Ps := [isLy u b, isDF b.ups]) (fun vs H Q ⟨own, dm, al, qq⟩ => ?_) (ja_cons (by k_extra "j") (ja_cons (by k_extra "j") ja_nil rfl) rfl) (nm.gl (by k_extra "at")) rfl rfl
          obtain ⟨v, w, rfl, ⟨rows, ly, e1⟩, e2⟩ := all2 al
          exact ⟨rows, b.ups, ly.wi t, own, dm, .cons e1 (.cons e2 .nil), qq⟩
        · rfl
      · k_extra "j"
      · exact cmp_neNil g (dat_strs []) (shp_strs fun _ h => nomatch h) (by decide)
      · exact rfl
    · rfl
  refine tr_forD g (Ps := rangeP 0 (row.length - 1)) ?_ (fun i (a : Unit) => [.val (isR u.K (ss.map isI)), .val (isL (row.map isI)), .val (isTr u.K b), .own true (ownDK b.ups), .val (isBx c u.K b), .any, .val (isL ((List.range n).map fun _ => isLy u b)), .any, .any, .any]) (fun i a => True) () trivial (by k_extra "sub") ?_ ?_ (fun _ => rfl)
  · apply ji_range1 g bt.range
    · k_extra "gl"
    · apply J.to (P := isI ((row.length : Int) - 1))
      · apply j_bin
        · apply jb_len g bt nm
          · k_extra "at"
          · k_extra "j"
          · exact len_L lst_L lr
          · exact rfl
        · k_extra "j"
        · k_extra "bin"
      · exact congrArg isI (by omega)
    · omega
    · exact rfl
  · rintro i P a G hP _
    obtain ⟨ilt, rfl⟩ := rangeP_get hP
    refine ⟨[(5, isI (i : Int))], ?_, ?_⟩
    · rw [Int.zero_add]
      k_extra "jg"
    have k1 := rmap i (by omega)
    have k2 : atI (row.map isI) ((i : Int) + 1) = some (isI (row.getD (i + 1) 0)) := by rw [show (i : Int) + 1 = ((i + 1 : Nat) : Int) by omega]; exact rmap (i + 1) (by omega)
    have q1 := rat i (by omega)
    have q2 := rat (i + 1) (by omega)
    have nne : (n : Int) ≠ 0 := by omega
    have x7 : atI ((List.range n).map fun _ => isLy u b) ((i : Int) % (n : Int)) = some (isLy u b) := by
      rw [show (i : Int) % (n : Int) = ((i % n : Nat) : Int) by omega]
      have lt : i % n < n := Nat.mod_lt _ (by omega)
      exact atI_nat (by rw [List.getElem?_map, List.getElem?_eq_getElem (by rw [List.length_range]; exact lt)]; rfl)
    apply tr_let g hf S (P := isLy u b)
    · k_extra "at"
    · k_extra "at"
    · apply j_ix g (P1 := isL ((List.range n).map fun _ => isLy u b))
      · k_extra "j"
      · apply j_bin
        · k_extra "j"
        · apply jb_len g bt nm
          · k_extra "at"
          · k_extra "j"
          · exact len_L lst_L ll
          · exact rfl
        · k_extra "bin"
      · exact ix_L lst_L x7
      · exact fun _ _ => rfl
    · exact rfl
    · exact rfl
    refine tr_ex 7 rfl fun rows => tr_and 7 rfl fun ly => ?_
    have r25 := ly.len t
    refine tr_asg (l := [(8, isPx u.K Sm)] ++ ([(9, isPx u.K Sm)] ++ [])) (P := isT u.K [isPx u.K Sm, isPx u.K Sm]) ?_ ?_ ?_ rfl rfl rfl
    · apply J.imp
      · refine j_call g c_law_spot (by omega) (Ps := [isL (rows.map (isRw u.K)), isI (row.getD i 0), isI (row.getD (i + 1) 0)]) (fun vs H Q h => ⟨rows, _, _, ly.sn, ly.ne, by omega, q1.1, q2.1, h⟩) ?_ (nm.gl (by k_extra "at")) rfl rfl
        k_extra "ja"
      · rintro S v ⟨q, ⟨m1, m2⟩, p⟩
        obtain ⟨a, vs, e, h, al⟩ := p
        obtain ⟨v, w, rfl, e1, e2⟩ := all2 al
        exact ⟨a, [v, w], e, h, .cons ⟨q.1, m1, e1⟩ (.cons ⟨q.2, m2, e2⟩ .nil)⟩
    · k_extra "jg"
    refine tr_ex 8 rfl fun x => tr_and 8 rfl fun hx => tr_ex 9 rfl fun y => tr_and 9 rfl fun hy => ?_
    apply tr_skip
    · refine lookK 3 rfl ?_
      apply JT.to (b := !true)
      · apply jt_not
        apply jt_call
        refine j_call g c_law_right (by omega) (Ps := [isL (rows.map (isRw u.K)), isDF b.ups, isPt u.K x, isPt u.K y]) (fun vs H Q h => ⟨rows, b.ups, x, y, ly.rt t hx hy, h⟩) ?_ (nm.gl (by k_extra "at")) rfl rfl
        k_extra "ja"
      · rfl
    refine tr_turnD () rfl trivial ?_
    k_extra "sub"
  · intro a _
    k_extra "ret"
    rfl

end Wd

end

section
set_option maxRecDepth 100000
set_option maxHeartbeats 4000000
namespace Wd
open PySem PySem.Spec L2
namespace Hd
open PySem PySem.Spec PyProof.Rows L2
theorem Told.b {K : PySem.W.Frag} {w : World} (c : Told fa fn tabs exs w K) (i : Nat) {b : Bool} (h : (exl K)[i]? = some b) : b = true := List.all_eq_true.mp c.ex b (List.mem_of_getElem? h)
theorem int_glo {u : Uni} {x : Str} {i : Int} (h : ∃ t, u.mg x = some (.int i t)) : Glo u x (isI i) := let ⟨t, e⟩ := h; ⟨_, .int i, e, ⟨t, rfl⟩, fun _ => rfl⟩
theorem str_glo {u : Uni} {x s : Str} (h : ∃ t, u.mg x = some (.str s t)) : Glo u x (isS s) := let ⟨t, e⟩ := h; ⟨_, .str s, e, ⟨t, rfl⟩, fun _ => rfl⟩
theorem strs_all {S : Hp} : ∀ ss : List Str, All S (ss.map isS) (ss.map V.str)
  | [] => .nil
  | s :: ss => .cons rfl (strs_all ss)
theorem txt_glo {u : Uni} {x : Str} {ss : List Str} (h : u.mg x = some (.ref (He.ga u.K x))) (b : He.lstB u.K x (ss.map He.Dv.str) = true) : Glo u x (isR u.K (ss.map isS)) := by
  refine ⟨_, .ref (He.ga u.K x), h, rfl, fun S => ⟨_, ss.map V.str, rfl, ?_, strs_all ss⟩⟩
  have := He.lstB_ok b S
  rw [List.map_map] at this
  exact this
theorem nought_glo {u : Uni} {x : Str} (h : u.mg x = some (.ref (He.ga u.K x))) (b : He.tupB u.K x [.int 0, .int 1] = true) : Glo u x (isPt u.K 0) :=
  ⟨_, .ref (He.ga u.K x), h, rfl, fun S => ⟨_, [.int 0, .int 1], rfl, He.tupB_ok b S, .cons rfl (.cons rfl .nil)⟩⟩
theorem pairAt_ok {K : PySem.W.Frag} {a : Addr} {i j : Int} (h : pairAt K a i j = true) (S : Hp) : SqT K S a [.int i, .int j] := by
  unfold pairAt at h
  split at h
  · next c od its n sl e =>
    obtain ⟨h1, h2⟩ := He.ba h
    obtain ⟨h2, h3⟩ := He.ba h2
    have e1 := of_decide_eq_true h1
    have e2 := of_decide_eq_true h2
    exact .inr ⟨_, its, n, e, e1, rfl, by rw [sizeLine_eq]; omega, He.relAll_ok h3⟩
  · cases h
theorem cf_of {u : Uni} {w : World} {l : List Str} (c : Told fa fn tabs exs w u.K) {x : Str} (h1 : Cls u.K (He.ga u.K x)) (h2 : ∀ f ∈ l, NoAttr u.K (He.ga u.K x) f) (h3 : clsB u.K x = true) : CF u.K l (He.ga u.K x) := by
  obtain ⟨a, b⟩ := He.ba h3
  obtain ⟨d, e⟩ := He.ba (c.b 0 rfl)
  exact ⟨h1, h2, He.eqO_ok a, He.eqO_ok d, of_decide_eq_true e, of_decide_eq_true b⟩
theorem ini_of {u : Uni} {x qual : Str} {st : Stmt} {fd : FuncData} (h1 : u.mg x = some (.ref (He.ga u.K x))) (h : iniB u.K x = true) (F : FunD u.K "__init__" qual (defArgs st) (defBody st) (defScope st) [] [] (He.ma u.K (He.ga u.K x) "__init__") fd) : DefI u x qual st := by
  obtain ⟨a, b⟩ := He.ba h
  obtain ⟨b, d⟩ := He.ba b
  refine ⟨_, _, _, _, h1, ⟨a, He.eqO_ok b⟩, ?_, F⟩
  revert d
  split
  · next f e => intro d; rw [e, of_decide_eq_true d]
  · intro d; cases d
theorem meth_same {K : PySem.W.Frag} {x m y : Str} (h : Meth K (He.ga K x) m (He.ma K (He.ga K x) m)) (s : sameB K x m y = true) : Meth K (He.ga K x) m (He.ma K (He.ga K y) m) := by
  rw [← show He.ma K (He.ga K x) m = He.ma K (He.ga K y) m from of_decide_eq_true s]
  exact h
theorem one_of {K : PySem.W.Frag} {x y : Str} {b : Bool} (h : oneB K x y b = true) : PySem.W.kitOne K (.ref (He.ga K x)) (.ref (He.ga K y)) = some b := of_decide_eq_true h
theorem lean_of {u : Uni} {s : Str} (h : s ∈ leansL) (h1 : leanB u.K "left" 0 1 = true) (h2 : leanB u.K "amid" 1 2 = true) (h3 : leanB u.K "right" 1 1 = true) : ∃ a, PySem.W.nsIn u.K (He.ga u.K "LEANS_laying") s = some (some (.ref a)) ∧ ∀ S, (isPt u.K (leanOf s)).p S (.ref a) := by
  simp only [leansL, List.mem_cons, List.not_mem_nil, or_false] at h
  have key : ∀ {k : Str} {i j : Int}, leanB u.K k i j = true → (leanOf k).num = i → ((leanOf k).den : Int) = j → ∃ a, PySem.W.nsIn u.K (He.ga u.K "LEANS_laying") k = some (some (.ref a)) ∧ ∀ S, (isPt u.K (leanOf k)).p S (.ref a) := fun {k i j} h e1 e2 => by
    obtain ⟨a, b⟩ := He.ba h
    refine ⟨leanA u.K k, He.eqO_ok a, fun S => ⟨_, [.int i, .int j], rfl, pairAt_ok b S, .cons ?_ (.cons ?_ .nil)⟩⟩
    · show V.int i = V.int _
      rw [e1]
    · show V.int j = V.int _
      rw [e2]
  rcases h with rfl | rfl | rfl
  · exact key h1 (by decide +kernel) (by decide +kernel)
  · exact key h2 (by decide +kernel) (by decide +kernel)
  · exact key h3 (by decide +kernel) (by decide +kernel)
theorem leanD_of {u : Uni} {h : Heap} (X0 : u.K.In h) (G0 : h.Ns mainGlobals u.mg) (c : Told fa fn tabs exs u.w u.K) : LeanD u := by
  refine ⟨fun {N sc k X Z Γ e p pos s} g hg hs he hp => ?_⟩
  have m := He.glo_ok X0 G0 (c.tab.d.fact 76 rfl)
  obtain ⟨es, n, D⟩ := c.tab.tab 0 rfl
  obtain ⟨a, e1, e2⟩ := lean_of hs (c.b 33 rfl) (c.b 34 rfl) (c.b 35 rfl)
  obtain ⟨rfl, rfl, rfl, -, -, -, -⟩ := g
  obtain ⟨g1, g2, _⟩ := okGl_gl hg
  refine j_of (pe_ix ix_kdict (pe_glob (v := .ref (He.ga X.K "LEANS_laying")) g1 m rfl g2) peW hp) fun own σ H g Q q => ?_
  refine he own σ H g _ fun v H1 s1 p1 => ?_
  exact ⟨He.ga X.K "LEANS_laying", s, .ref a, rfl, p1, ⟨es, n, .ref a, D.at_, D.lit, e1, rfl⟩, q _ H1 s1 (e2 _)⟩
theorem law_ok {u : Uni} {h : Heap} (X0 : u.K.In h) (G0 : h.Ns mainGlobals u.mg) (c : Told fa fn tabs exs u.w u.K) {fd : FuncData} (F : FunD u.K "law" "law" (defArgs (topS 109)) (defBody (topS 109)) (defScope (topS 109)) [] [] (He.ga u.K "law") fd) : FnOk u.P u.w u.K u.mg u.base CX0 26 (He.ga u.K "law") fd ["_law_script"] (sp_law u) := by
  have bt : Bts u := ⟨⟨He.free_ok X0 G0 (c.tab.d.fact 83 rfl)⟩, ⟨He.free_ok X0 G0 (c.tab.d.fact 84 rfl)⟩, ⟨He.free_ok X0 G0 (c.tab.d.fact 85 rfl)⟩, ⟨He.free_ok X0 G0 (c.tab.d.fact 86 rfl)⟩, ⟨He.free_ok X0 G0 (c.tab.d.fact 87 rfl)⟩, ⟨He.free_ok X0 G0 (c.tab.d.fact 88 rfl)⟩, ⟨He.free_ok X0 G0 (c.tab.d.fact 89 rfl)⟩, ⟨He.free_ok X0 G0 (c.tab.d.fact 90 rfl)⟩, ⟨He.free_ok X0 G0 (c.tab.d.fact 91 rfl)⟩, ⟨He.free_ok X0 G0 (c.tab.d.fact 92 rfl)⟩, ⟨He.free_ok X0 G0 (c.tab.d.fact 93 rfl)⟩, ⟨He.free_ok X0 G0 (c.tab.d.fact 94 rfl)⟩, ⟨He.free_ok X0 G0 (c.tab.d.fact 95 rfl)⟩, ⟨He.free_ok X0 G0 (c.tab.d.fact 96 rfl)⟩, ⟨He.free_ok X0 G0 (c.tab.d.fact 97 rfl)⟩, ⟨He.free_ok X0 G0 (c.tab.d.fact 98 rfl)⟩, ⟨He.free_ok X0 G0 (c.tab.d.fact 99 rfl)⟩, ⟨He.free_ok X0 G0 (c.tab.d.fact 100 rfl)⟩⟩
  have d_common_divisor : Defd u "common_divisor" "common_divisor" (topS 9) [] := let ⟨fd, F⟩ := c.tab.d.def_ 0 (d := dG 9 "common_divisor") rfl; ⟨He.ga u.K "common_divisor", fd, He.glo_ok X0 G0 (c.tab.d.fact 0 rfl), F⟩
  have d_is_whole : Defd u "is_whole" "is_whole" (topS 10) [] := let ⟨fd, F⟩ := c.tab.d.def_ 1 (d := dG 10 "is_whole") rfl; ⟨He.ga u.K "is_whole", fd, He.glo_ok X0 G0 (c.tab.d.fact 1 rfl), F⟩
  have d_is_part : Defd u "is_part" "is_part" (topS 11) [] := let ⟨fd, F⟩ := c.tab.d.def_ 2 (d := dG 11 "is_part") rfl; ⟨He.ga u.K "is_part", fd, He.glo_ok X0 G0 (c.tab.d.fact 2 rfl), F⟩
  have d_part_of : Defd u "part_of" "part_of" (topS 12) [.int 1] := let ⟨fd, F⟩ := c.tab.d.def_ 3 (d := dG 12 "part_of" [.int 1]) rfl; ⟨He.ga u.K "part_of", fd, He.glo_ok X0 G0 (c.tab.d.fact 3 rfl), F⟩
  have d_added : Defd u "added" "added" (topS 13) [] := let ⟨fd, F⟩ := c.tab.d.def_ 4 (d := dG 13 "added") rfl; ⟨He.ga u.K "added", fd, He.glo_ok X0 G0 (c.tab.d.fact 4 rfl), F⟩
  have d_less : Defd u "less" "less" (topS 14) [] := let ⟨fd, F⟩ := c.tab.d.def_ 5 (d := dG 14 "less") rfl; ⟨He.ga u.K "less", fd, He.glo_ok X0 G0 (c.tab.d.fact 5 rfl), F⟩
  have d_product : Defd u "product" "product" (topS 15) [] := let ⟨fd, F⟩ := c.tab.d.def_ 6 (d := dG 15 "product") rfl; ⟨He.ga u.K "product", fd, He.glo_ok X0 G0 (c.tab.d.fact 6 rfl), F⟩
  have d_quotient : Defd u "quotient" "quotient" (topS 16) [] := let ⟨fd, F⟩ := c.tab.d.def_ 7 (d := dG 16 "quotient") rfl; ⟨He.ga u.K "quotient", fd, He.glo_ok X0 G0 (c.tab.d.fact 7 rfl), F⟩
  have d_is_more : Defd u "is_more" "is_more" (topS 17) [] := let ⟨fd, F⟩ := c.tab.d.def_ 8 (d := dG 17 "is_more") rfl; ⟨He.ga u.K "is_more", fd, He.glo_ok X0 G0 (c.tab.d.fact 8 rfl), F⟩
  have d_lesser : Defd u "lesser" "lesser" (topS 18) [] := let ⟨fd, F⟩ := c.tab.d.def_ 9 (d := dG 18 "lesser") rfl; ⟨He.ga u.K "lesser", fd, He.glo_ok X0 G0 (c.tab.d.fact 9 rfl), F⟩
  have d_greater : Defd u "greater" "greater" (topS 19) [] := let ⟨fd, F⟩ := c.tab.d.def_ 10 (d := dG 19 "greater") rfl; ⟨He.ga u.K "greater", fd, He.glo_ok X0 G0 (c.tab.d.fact 10 rfl), F⟩
  have d_is_figures : Defd u "is_figures" "is_figures" (topS 20) [] := let ⟨fd, F⟩ := c.tab.d.def_ 11 (d := dG 20 "is_figures") rfl; ⟨He.ga u.K "is_figures", fd, He.glo_ok X0 G0 (c.tab.d.fact 11 rfl), F⟩
  have d_is_within : Defd u "is_within" "is_within" (topS 22) [] := let ⟨fd, F⟩ := c.tab.d.def_ 12 (d := dG 22 "is_within") rfl; ⟨He.ga u.K "is_within", fd, He.glo_ok X0 G0 (c.tab.d.fact 12 rfl), F⟩
  have d_at_point : Defd u "at_point" "at_point" (topS 23) [] := let ⟨fd, F⟩ := c.tab.d.def_ 13 (d := dG 23 "at_point") rfl; ⟨He.ga u.K "at_point", fd, He.glo_ok X0 G0 (c.tab.d.fact 13 rfl), F⟩
  have d_innermost : Defd u "innermost" "innermost" (topS 24) [] := let ⟨fd, F⟩ := c.tab.d.def_ 14 (d := dG 24 "innermost") rfl; ⟨He.ga u.K "innermost", fd, He.glo_ok X0 G0 (c.tab.d.fact 14 rfl), F⟩
  have d_have_common : Defd u "have_common" "have_common" (topS 25) [] := let ⟨fd, F⟩ := c.tab.d.def_ 15 (d := dG 25 "have_common") rfl; ⟨He.ga u.K "have_common", fd, He.glo_ok X0 G0 (c.tab.d.fact 15 rfl), F⟩
  have d_crossing : Defd u "crossing" "crossing" (topS 26) [] := let ⟨fd, F⟩ := c.tab.d.def_ 16 (d := dG 26 "crossing") rfl; ⟨He.ga u.K "crossing", fd, He.glo_ok X0 G0 (c.tab.d.fact 16 rfl), F⟩
  have d_place_of : Defd u "place_of" "place_of" (topS 27) [] := let ⟨fd, F⟩ := c.tab.d.def_ 17 (d := dG 27 "place_of") rfl; ⟨He.ga u.K "place_of", fd, He.glo_ok X0 G0 (c.tab.d.fact 17 rfl), F⟩
  have d_is_name : Defd u "is_name" "is_name" (topS 39) [] := let ⟨fd, F⟩ := c.tab.d.def_ 18 (d := dG 39 "is_name") rfl; ⟨He.ga u.K "is_name", fd, He.glo_ok X0 G0 (c.tab.d.fact 18 rfl), F⟩
  have d_is_size : Defd u "is_size" "is_size" (topS 40) [] := let ⟨fd, F⟩ := c.tab.d.def_ 19 (d := dG 40 "is_size") rfl; ⟨He.ga u.K "is_size", fd, He.glo_ok X0 G0 (c.tab.d.fact 19 rfl), F⟩
  have d_is_weight : Defd u "is_weight" "is_weight" (topS 41) [] := let ⟨fd, F⟩ := c.tab.d.def_ 20 (d := dG 41 "is_weight") rfl; ⟨He.ga u.K "is_weight", fd, He.glo_ok X0 G0 (c.tab.d.fact 20 rfl), F⟩
  have d_are_sizes : Defd u "are_sizes" "are_sizes" (topS 42) [] := let ⟨fd, F⟩ := c.tab.d.def_ 21 (d := dG 42 "are_sizes") rfl; ⟨He.ga u.K "are_sizes", fd, He.glo_ok X0 G0 (c.tab.d.fact 21 rfl), F⟩
  have d_need : Defd u "need" "need" (topS 48) [] := let ⟨fd, F⟩ := c.tab.d.def_ 22 (d := dG 48 "need") rfl; ⟨He.ga u.K "need", fd, He.glo_ok X0 G0 (c.tab.d.fact 22 rfl), F⟩
  have d_made_of : Defd u "made_of" "made_of" (topS 49) [] := let ⟨fd, F⟩ := c.tab.d.def_ 23 (d := dG 49 "made_of") rfl; ⟨He.ga u.K "made_of", fd, He.glo_ok X0 G0 (c.tab.d.fact 23 rfl), F⟩
  have d_box_of : Defd u "box_of" "box_of" (topS 50) [] := let ⟨fd, F⟩ := c.tab.d.def_ 24 (d := dG 50 "box_of") rfl; ⟨He.ga u.K "box_of", fd, He.glo_ok X0 G0 (c.tab.d.fact 24 rfl), F⟩
  have d_goes_into : Defd u "goes_into" "goes_into" (topS 52) [] := let ⟨fd, F⟩ := c.tab.d.def_ 25 (d := dG 52 "goes_into") rfl; ⟨He.ga u.K "goes_into", fd, He.glo_ok X0 G0 (c.tab.d.fact 25 rfl), F⟩
  have d_broken : Defd u "broken" "broken" (topS 53) [] := let ⟨fd, F⟩ := c.tab.d.def_ 26 (d := dG 53 "broken") rfl; ⟨He.ga u.K "broken", fd, He.glo_ok X0 G0 (c.tab.d.fact 26 rfl), F⟩
  have d_is_number : Defd u "is_number" "is_number" (topS 58) [] := let ⟨fd, F⟩ := c.tab.d.def_ 27 (d := dG 58 "is_number") rfl; ⟨He.ga u.K "is_number", fd, He.glo_ok X0 G0 (c.tab.d.fact 27 rfl), F⟩
  have d_is_item : Defd u "is_item" "is_item" (topS 59) [] := let ⟨fd, F⟩ := c.tab.d.def_ 28 (d := dG 59 "is_item") rfl; ⟨He.ga u.K "is_item", fd, He.glo_ok X0 G0 (c.tab.d.fact 28 rfl), F⟩
  have d_need_items : Defd u "need_items" "need_items" (topS 60) [] := let ⟨fd, F⟩ := c.tab.d.def_ 29 (d := dG 60 "need_items") rfl; ⟨He.ga u.K "need_items", fd, He.glo_ok X0 G0 (c.tab.d.fact 29 rfl), F⟩
  have d_width_at : Defd u "width_at" "width_at" (topS 61) [] := let ⟨fd, F⟩ := c.tab.d.def_ 30 (d := dG 61 "width_at") rfl; ⟨He.ga u.K "width_at", fd, He.glo_ok X0 G0 (c.tab.d.fact 30 rfl), F⟩
  have d_total_of : Defd u "total_of" "total_of" (topS 62) [] := let ⟨fd, F⟩ := c.tab.d.def_ 31 (d := dG 62 "total_of") rfl; ⟨He.ga u.K "total_of", fd, He.glo_ok X0 G0 (c.tab.d.fact 31 rfl), F⟩
  have d_bound_of : Defd u "bound_of" "bound_of" (topS 63) [] := let ⟨fd, F⟩ := c.tab.d.def_ 32 (d := dG 63 "bound_of") rfl; ⟨He.ga u.K "bound_of", fd, He.glo_ok X0 G0 (c.tab.d.fact 32 rfl), F⟩
  have d_weight_of : Defd u "weight_of" "weight_of" (topS 64) [] := let ⟨fd, F⟩ := c.tab.d.def_ 33 (d := dG 64 "weight_of") rfl; ⟨He.ga u.K "weight_of", fd, He.glo_ok X0 G0 (c.tab.d.fact 33 rfl), F⟩
  have d_ends_of : Defd u "ends_of" "ends_of" (topS 65) [] := let ⟨fd, F⟩ := c.tab.d.def_ 34 (d := dG 65 "ends_of") rfl; ⟨He.ga u.K "ends_of", fd, He.glo_ok X0 G0 (c.tab.d.fact 34 rfl), F⟩
  have d_weight_beyond : Defd u "weight_beyond" "weight_beyond" (topS 66) [] := let ⟨fd, F⟩ := c.tab.d.def_ 35 (d := dG 66 "weight_beyond") rfl; ⟨He.ga u.K "weight_beyond", fd, He.glo_ok X0 G0 (c.tab.d.fact 35 rfl), F⟩
  have d_far_share : Defd u "far_share" "far_share" (topS 67) [] := let ⟨fd, F⟩ := c.tab.d.def_ 36 (d := dG 67 "far_share") rfl; ⟨He.ga u.K "far_share", fd, He.glo_ok X0 G0 (c.tab.d.fact 36 rfl), F⟩
  have d_share_of : Defd u "share_of" "share_of" (topS 68) [] := let ⟨fd, F⟩ := c.tab.d.def_ 37 (d := dG 68 "share_of") rfl; ⟨He.ga u.K "share_of", fd, He.glo_ok X0 G0 (c.tab.d.fact 37 rfl), F⟩
  have d_shared : Defd u "shared" "shared" (topS 69) [] := let ⟨fd, F⟩ := c.tab.d.def_ 38 (d := dG 69 "shared") rfl; ⟨He.ga u.K "shared", fd, He.glo_ok X0 G0 (c.tab.d.fact 38 rfl), F⟩
  have d_need_width : Defd u "need_width" "need_width" (topS 73) [] := let ⟨fd, F⟩ := c.tab.d.def_ 39 (d := dG 73 "need_width") rfl; ⟨He.ga u.K "need_width", fd, He.glo_ok X0 G0 (c.tab.d.fact 39 rfl), F⟩
  have d_lines_in : Defd u "lines_in" "lines_in" (topS 74) [] := let ⟨fd, F⟩ := c.tab.d.def_ 40 (d := dG 74 "lines_in") rfl; ⟨He.ga u.K "lines_in", fd, He.glo_ok X0 G0 (c.tab.d.fact 40 rfl), F⟩
  have d_line_widths : Defd u "line_widths" "line_widths" (topS 75) [] := let ⟨fd, F⟩ := c.tab.d.def_ 41 (d := dG 75 "line_widths") rfl; ⟨He.ga u.K "line_widths", fd, He.glo_ok X0 G0 (c.tab.d.fact 41 rfl), F⟩
  have d_shifted : Defd u "shifted" "shifted" (topS 76) [] := let ⟨fd, F⟩ := c.tab.d.def_ 42 (d := dG 76 "shifted") rfl; ⟨He.ga u.K "shifted", fd, He.glo_ok X0 G0 (c.tab.d.fact 42 rfl), F⟩
  have d_line_laid : Defd u "line_laid" "line_laid" (topS 77) [] := let ⟨fd, F⟩ := c.tab.d.def_ 43 (d := dG 77 "line_laid") rfl; ⟨He.ga u.K "line_laid", fd, He.glo_ok X0 G0 (c.tab.d.fact 43 rfl), F⟩
  have d_placed : Defd u "placed" "placed" (topS 78) [] := let ⟨fd, F⟩ := c.tab.d.def_ 44 (d := dG 78 "placed") rfl; ⟨He.ga u.K "placed", fd, He.glo_ok X0 G0 (c.tab.d.fact 44 rfl), F⟩
  have d_laid : Defd u "laid" "laid" (topS 79) [] := let ⟨fd, F⟩ := c.tab.d.def_ 45 (d := dG 79 "laid") rfl; ⟨He.ga u.K "laid", fd, He.glo_ok X0 G0 (c.tab.d.fact 45 rfl), F⟩
  have d_size_text : Defd u "size_text" "size_text" (topS 82) [] := let ⟨fd, F⟩ := c.tab.d.def_ 46 (d := dG 82 "size_text") rfl; ⟨He.ga u.K "size_text", fd, He.glo_ok X0 G0 (c.tab.d.fact 46 rfl), F⟩
  have d_row_of : Defd u "row_of" "row_of" (topS 83) [] := let ⟨fd, F⟩ := c.tab.d.def_ 47 (d := dG 83 "row_of") rfl; ⟨He.ga u.K "row_of", fd, He.glo_ok X0 G0 (c.tab.d.fact 47 rfl), F⟩
  have d_rows_of : Defd u "rows_of" "rows_of" (topS 84) [] := let ⟨fd, F⟩ := c.tab.d.def_ 48 (d := dG 84 "rows_of") rfl; ⟨He.ga u.K "rows_of", fd, He.glo_ok X0 G0 (c.tab.d.fact 48 rfl), F⟩
  have d_written : Defd u "written" "written" (topS 85) [] := let ⟨fd, F⟩ := c.tab.d.def_ 49 (d := dG 85 "written") rfl; ⟨He.ga u.K "written", fd, He.glo_ok X0 G0 (c.tab.d.fact 49 rfl), F⟩
  have d_size_in : Defd u "size_in" "size_in" (topS 86) [] := let ⟨fd, F⟩ := c.tab.d.def_ 50 (d := dG 86 "size_in") rfl; ⟨He.ga u.K "size_in", fd, He.glo_ok X0 G0 (c.tab.d.fact 50 rfl), F⟩
  have d_parts_of : Defd u "parts_of" "parts_of" (topS 87) [] := let ⟨fd, F⟩ := c.tab.d.def_ 51 (d := dG 87 "parts_of") rfl; ⟨He.ga u.K "parts_of", fd, He.glo_ok X0 G0 (c.tab.d.fact 51 rfl), F⟩
  have d_read_box : Defd u "read_box" "read_box" (topS 89) [] := let ⟨fd, F⟩ := c.tab.d.def_ 52 (d := dG 89 "read_box") rfl; ⟨He.ga u.K "read_box", fd, He.glo_ok X0 G0 (c.tab.d.fact 52 rfl), F⟩
  have d__law_kept : Defd u "_law_kept" "_law_kept" (topS 91) [] := let ⟨fd, F⟩ := c.tab.d.def_ 53 (d := dG 91 "_law_kept") rfl; ⟨He.ga u.K "_law_kept", fd, He.glo_ok X0 G0 (c.tab.d.fact 53 rfl), F⟩
  have d__law_name : Defd u "_law_name" "_law_name" (topS 92) [] := let ⟨fd, F⟩ := c.tab.d.def_ 54 (d := dG 92 "_law_name") rfl; ⟨He.ga u.K "_law_name", fd, He.glo_ok X0 G0 (c.tab.d.fact 54 rfl), F⟩
  have d__law_names : Defd u "_law_names" "_law_names" (topS 93) [] := let ⟨fd, F⟩ := c.tab.d.def_ 55 (d := dG 93 "_law_names") rfl; ⟨He.ga u.K "_law_names", fd, He.glo_ok X0 G0 (c.tab.d.fact 55 rfl), F⟩
  have d__law_row : Defd u "_law_row" "_law_row" (topS 94) [] := let ⟨fd, F⟩ := c.tab.d.def_ 56 (d := dG 94 "_law_row") rfl; ⟨He.ga u.K "_law_row", fd, He.glo_ok X0 G0 (c.tab.d.fact 56 rfl), F⟩
  have d__law_size : Defd u "_law_size" "_law_size" (topS 95) [] := let ⟨fd, F⟩ := c.tab.d.def_ 57 (d := dG 95 "_law_size") rfl; ⟨He.ga u.K "_law_size", fd, He.glo_ok X0 G0 (c.tab.d.fact 57 rfl), F⟩
  have d__law_sizes : Defd u "_law_sizes" "_law_sizes" (topS 96) [] := let ⟨fd, F⟩ := c.tab.d.def_ 58 (d := dG 96 "_law_sizes") rfl; ⟨He.ga u.K "_law_sizes", fd, He.glo_ok X0 G0 (c.tab.d.fact 58 rfl), F⟩
  have d__law_made : Defd u "_law_made" "_law_made" (topS 97) [] := let ⟨fd, F⟩ := c.tab.d.def_ 59 (d := dG 97 "_law_made") rfl; ⟨He.ga u.K "_law_made", fd, He.glo_ok X0 G0 (c.tab.d.fact 59 rfl), F⟩
  have d__law_tree : Defd u "_law_tree" "_law_tree" (topS 98) [] := let ⟨fd, F⟩ := c.tab.d.def_ 60 (d := dG 98 "_law_tree") rfl; ⟨He.ga u.K "_law_tree", fd, He.glo_ok X0 G0 (c.tab.d.fact 60 rfl), F⟩
  have d__law_gcd : Defd u "_law_gcd" "_law_gcd" (topS 99) [] := let ⟨fd, F⟩ := c.tab.d.def_ 61 (d := dG 99 "_law_gcd") rfl; ⟨He.ga u.K "_law_gcd", fd, He.glo_ok X0 G0 (c.tab.d.fact 61 rfl), F⟩
  have d__law_part : Defd u "_law_part" "_law_part" (topS 100) [] := let ⟨fd, F⟩ := c.tab.d.def_ 62 (d := dG 100 "_law_part") rfl; ⟨He.ga u.K "_law_part", fd, He.glo_ok X0 G0 (c.tab.d.fact 62 rfl), F⟩
  have d__law_sum : Defd u "_law_sum" "_law_sum" (topS 101) [] := let ⟨fd, F⟩ := c.tab.d.def_ 63 (d := dG 101 "_law_sum") rfl; ⟨He.ga u.K "_law_sum", fd, He.glo_ok X0 G0 (c.tab.d.fact 63 rfl), F⟩
  have d__law_less : Defd u "_law_less" "_law_less" (topS 102) [] := let ⟨fd, F⟩ := c.tab.d.def_ 64 (d := dG 102 "_law_less") rfl; ⟨He.ga u.K "_law_less", fd, He.glo_ok X0 G0 (c.tab.d.fact 64 rfl), F⟩
  have d__law_width : Defd u "_law_width" "_law_width" (topS 103) [] := let ⟨fd, F⟩ := c.tab.d.def_ 65 (d := dG 103 "_law_width") rfl; ⟨He.ga u.K "_law_width", fd, He.glo_ok X0 G0 (c.tab.d.fact 65 rfl), F⟩
  have d__law_spot : Defd u "_law_spot" "_law_spot" (topS 104) [] := let ⟨fd, F⟩ := c.tab.d.def_ 66 (d := dG 104 "_law_spot") rfl; ⟨He.ga u.K "_law_spot", fd, He.glo_ok X0 G0 (c.tab.d.fact 66 rfl), F⟩
  have d__law_in : Defd u "_law_in" "_law_in" (topS 105) [] := let ⟨fd, F⟩ := c.tab.d.def_ 67 (d := dG 105 "_law_in") rfl; ⟨He.ga u.K "_law_in", fd, He.glo_ok X0 G0 (c.tab.d.fact 67 rfl), F⟩
  have d__law_parents : Defd u "_law_parents" "_law_parents" (topS 106) [] := let ⟨fd, F⟩ := c.tab.d.def_ 68 (d := dG 106 "_law_parents") rfl; ⟨He.ga u.K "_law_parents", fd, He.glo_ok X0 G0 (c.tab.d.fact 68 rfl), F⟩
  have d__law_right : Defd u "_law_right" "_law_right" (topS 107) [] := let ⟨fd, F⟩ := c.tab.d.def_ 69 (d := dG 107 "_law_right") rfl; ⟨He.ga u.K "_law_right", fd, He.glo_ok X0 G0 (c.tab.d.fact 69 rfl), F⟩
  have d__law_within : Defd u "_law_within" "_law_within" (topS 108) [] := let ⟨fd, F⟩ := c.tab.d.def_ 70 (d := dG 108 "_law_within") rfl; ⟨He.ga u.K "_law_within", fd, He.glo_ok X0 G0 (c.tab.d.fact 70 rfl), F⟩
  have g_MOST_SIGNS : Glo u "MOST_SIGNS" (isI 8) := int_glo (He.int_ok X0 G0 (c.tab.d.fact 101 rfl))
  have g_MOST_SIZE_boxes : Glo u "MOST_SIZE_boxes" (isI 1000) := int_glo (He.int_ok X0 G0 (c.tab.d.fact 102 rfl))
  have g_MOST_WEIGHT_boxes : Glo u "MOST_WEIGHT_boxes" (isI 20) := int_glo (He.int_ok X0 G0 (c.tab.d.fact 103 rfl))
  have g_MOST_BOXES : Glo u "MOST_BOXES" (isI 40) := int_glo (He.int_ok X0 G0 (c.tab.d.fact 104 rfl))
  have g_MOST_WITHIN : Glo u "MOST_WITHIN" (isI 6) := int_glo (He.int_ok X0 G0 (c.tab.d.fact 105 rfl))
  have g_MOST_KIDS : Glo u "MOST_KIDS" (isI 12) := int_glo (He.int_ok X0 G0 (c.tab.d.fact 106 rfl))
  have g_MOST_SIZE_sharing : Glo u "MOST_SIZE_sharing" (isI 1000) := int_glo (He.int_ok X0 G0 (c.tab.d.fact 107 rfl))
  have g_MOST_WEIGHT_sharing : Glo u "MOST_WEIGHT_sharing" (isI 20) := int_glo (He.int_ok X0 G0 (c.tab.d.fact 108 rfl))
  have g_MOST_DEEP : Glo u "MOST_DEEP" (isI 7) := int_glo (He.int_ok X0 G0 (c.tab.d.fact 109 rfl))
  have g_FIGURES : Glo u "FIGURES" (isS figS) := str_glo (He.str_ok X0 G0 (c.tab.d.fact 110 rfl))
  have g_LETTERS : Glo u "LETTERS" (isS lettersS) := str_glo (He.str_ok X0 G0 (c.tab.d.fact 111 rfl))
  have g_SIGNS : Glo u "SIGNS" (isS signsS) := str_glo (He.str_ok X0 G0 (c.tab.d.fact 112 rfl))
  have g_KEPT : Glo u "KEPT" (isR u.K (keptL.map isS)) := txt_glo (He.glo_ok X0 G0 (c.tab.d.fact 72 rfl)) (c.b 29 rfl)
  have g_LEANS_boxes : Glo u "LEANS_boxes" (isR u.K (leansL.map isS)) := txt_glo (He.glo_ok X0 G0 (c.tab.d.fact 73 rfl)) (c.b 30 rfl)
  have g_NOUGHT_sharing : Glo u "NOUGHT_sharing" (isPt u.K 0) := nought_glo (He.glo_ok X0 G0 (c.tab.d.fact 74 rfl)) (c.b 31 rfl)
  have g_NOUGHT_laying : Glo u "NOUGHT_laying" (isPt u.K 0) := nought_glo (He.glo_ok X0 G0 (c.tab.d.fact 75 rfl)) (c.b 32 rfl)
  have ld : LeanD u := leanD_of X0 G0 c
  let k : Cl := ⟨He.ga u.K "Plain", He.ga u.K "Row", He.ga u.K "Column"⟩
  have l_Plain : Cls u.K (He.ga u.K "Plain") := He.cls_ok (c.tab.d.fact 113 rfl)
  have f_Plain : CF u.K FN (He.ga u.K "Plain") := cf_of c l_Plain (fun f hf => by
    simp only [FN, List.mem_cons, List.not_mem_nil, or_false] at hf
    rcases hf with rfl | rfl | rfl | rfl | rfl | rfl | rfl
    · exact He.noat_ok (c.tab.d.fact 117 rfl)
    · exact He.noat_ok (c.tab.d.fact 118 rfl)
    · exact He.noat_ok (c.tab.d.fact 119 rfl)
    · exact He.noat_ok (c.tab.d.fact 120 rfl)
    · exact He.noat_ok (c.tab.d.fact 121 rfl)
    · exact He.noat_ok (c.tab.d.fact 122 rfl)
    · exact He.noat_ok (c.tab.d.fact 123 rfl)) (c.b 1 rfl)
  have l_Row : Cls u.K (He.ga u.K "Row") := He.cls_ok (c.tab.d.fact 114 rfl)
  have f_Row : CF u.K FN (He.ga u.K "Row") := cf_of c l_Row (fun f hf => by
    simp only [FN, List.mem_cons, List.not_mem_nil, or_false] at hf
    rcases hf with rfl | rfl | rfl | rfl | rfl | rfl | rfl
    · exact He.noat_ok (c.tab.d.fact 124 rfl)
    · exact He.noat_ok (c.tab.d.fact 125 rfl)
    · exact He.noat_ok (c.tab.d.fact 126 rfl)
    · exact He.noat_ok (c.tab.d.fact 127 rfl)
    · exact He.noat_ok (c.tab.d.fact 128 rfl)
    · exact He.noat_ok (c.tab.d.fact 129 rfl)
    · exact He.noat_ok (c.tab.d.fact 130 rfl)) (c.b 2 rfl)
  have l_Column : Cls u.K (He.ga u.K "Column") := He.cls_ok (c.tab.d.fact 115 rfl)
  have f_Column : CF u.K FN (He.ga u.K "Column") := cf_of c l_Column (fun f hf => by
    simp only [FN, List.mem_cons, List.not_mem_nil, or_false] at hf
    rcases hf with rfl | rfl | rfl | rfl | rfl | rfl | rfl
    · exact He.noat_ok (c.tab.d.fact 131 rfl)
    · exact He.noat_ok (c.tab.d.fact 132 rfl)
    · exact He.noat_ok (c.tab.d.fact 133 rfl)
    · exact He.noat_ok (c.tab.d.fact 134 rfl)
    · exact He.noat_ok (c.tab.d.fact 135 rfl)
    · exact He.noat_ok (c.tab.d.fact 136 rfl)
    · exact He.noat_ok (c.tab.d.fact 137 rfl)) (c.b 3 rfl)
  have l_Reader : Cls u.K (He.ga u.K "Reader") := He.cls_ok (c.tab.d.fact 116 rfl)
  have f_Reader : CF u.K FR (He.ga u.K "Reader") := cf_of c l_Reader (fun f hf => by
    simp only [FR, List.mem_cons, List.not_mem_nil, or_false] at hf
    rcases hf with rfl | rfl
    · exact He.noat_ok (c.tab.d.fact 138 rfl)
    · exact He.noat_ok (c.tab.d.fact 139 rfl)) (c.b 4 rfl)
  have cf : BxC u k := ⟨f_Plain, f_Row, f_Column⟩
  have m_name : DefM u [k.P, k.R, k.C] "name" "Box.name" (inClass (topS 43) 2) := by
    obtain ⟨fd, F⟩ := c.tab.d.def_ 77 (d := dM "Box" "name" "Box.name" 43 2) rfl
    refine ⟨He.ma u.K (He.ga u.K "Box") "name", fd, F, fun C hC => ?_⟩
    simp only [List.mem_cons, List.not_mem_nil, or_false] at hC
    rcases hC with rfl | rfl | rfl
    · exact ⟨l_Plain, meth_same (He.meth_ok (c.tab.d.fact 140 rfl)) (c.b 5 rfl)⟩
    · exact ⟨l_Row, meth_same (He.meth_ok (c.tab.d.fact 141 rfl)) (c.b 6 rfl)⟩
    · exact ⟨l_Column, meth_same (He.meth_ok (c.tab.d.fact 142 rfl)) (c.b 7 rfl)⟩
  have m_sizes : DefM u [k.P, k.R, k.C] "sizes" "Box.sizes" (inClass (topS 43) 3) := by
    obtain ⟨fd, F⟩ := c.tab.d.def_ 78 (d := dM "Box" "sizes" "Box.sizes" 43 3) rfl
    refine ⟨He.ma u.K (He.ga u.K "Box") "sizes", fd, F, fun C hC => ?_⟩
    simp only [List.mem_cons, List.not_mem_nil, or_false] at hC
    rcases hC with rfl | rfl | rfl
    · exact ⟨l_Plain, meth_same (He.meth_ok (c.tab.d.fact 143 rfl)) (c.b 8 rfl)⟩
    · exact ⟨l_Row, meth_same (He.meth_ok (c.tab.d.fact 144 rfl)) (c.b 9 rfl)⟩
    · exact ⟨l_Column, meth_same (He.meth_ok (c.tab.d.fact 145 rfl)) (c.b 10 rfl)⟩
  have m_kids : DefM u [k.P, k.R, k.C] "kids" "Box.kids" (inClass (topS 43) 4) := by
    obtain ⟨fd, F⟩ := c.tab.d.def_ 79 (d := dM "Box" "kids" "Box.kids" 43 4) rfl
    refine ⟨He.ma u.K (He.ga u.K "Box") "kids", fd, F, fun C hC => ?_⟩
    simp only [List.mem_cons, List.not_mem_nil, or_false] at hC
    rcases hC with rfl | rfl | rfl
    · exact ⟨l_Plain, meth_same (He.meth_ok (c.tab.d.fact 146 rfl)) (c.b 11 rfl)⟩
    · exact ⟨l_Row, meth_same (He.meth_ok (c.tab.d.fact 147 rfl)) (c.b 12 rfl)⟩
    · exact ⟨l_Column, meth_same (He.meth_ok (c.tab.d.fact 148 rfl)) (c.b 13 rfl)⟩
  have m_names : DefM u [k.P, k.R, k.C] "names" "Box.names" (inClass (topS 43) 5) := by
    obtain ⟨fd, F⟩ := c.tab.d.def_ 80 (d := dM "Box" "names" "Box.names" 43 5) rfl
    refine ⟨He.ma u.K (He.ga u.K "Box") "names", fd, F, fun C hC => ?_⟩
    simp only [List.mem_cons, List.not_mem_nil, or_false] at hC
    rcases hC with rfl | rfl | rfl
    · exact ⟨l_Plain, meth_same (He.meth_ok (c.tab.d.fact 149 rfl)) (c.b 14 rfl)⟩
    · exact ⟨l_Row, meth_same (He.meth_ok (c.tab.d.fact 150 rfl)) (c.b 15 rfl)⟩
    · exact ⟨l_Column, meth_same (He.meth_ok (c.tab.d.fact 151 rfl)) (c.b 16 rfl)⟩
  have m_gap : DefM u [k.R, k.C] "gap" "Around.gap" (inClass (topS 45) 1) := by
    obtain ⟨fd, F⟩ := c.tab.d.def_ 81 (d := dM "Around" "gap" "Around.gap" 45 1) rfl
    refine ⟨He.ma u.K (He.ga u.K "Around") "gap", fd, F, fun C hC => ?_⟩
    simp only [List.mem_cons, List.not_mem_nil, or_false] at hC
    rcases hC with rfl | rfl
    · exact ⟨l_Row, meth_same (He.meth_ok (c.tab.d.fact 152 rfl)) (c.b 17 rfl)⟩
    · exact ⟨l_Column, meth_same (He.meth_ok (c.tab.d.fact 153 rfl)) (c.b 18 rfl)⟩
  have m_lean : DefM u [k.R, k.C] "lean" "Around.lean" (inClass (topS 45) 2) := by
    obtain ⟨fd, F⟩ := c.tab.d.def_ 82 (d := dM "Around" "lean" "Around.lean" 45 2) rfl
    refine ⟨He.ma u.K (He.ga u.K "Around") "lean", fd, F, fun C hC => ?_⟩
    simp only [List.mem_cons, List.not_mem_nil, or_false] at hC
    rcases hC with rfl | rfl
    · exact ⟨l_Row, meth_same (He.meth_ok (c.tab.d.fact 154 rfl)) (c.b 19 rfl)⟩
    · exact ⟨l_Column, meth_same (He.meth_ok (c.tab.d.fact 155 rfl)) (c.b 20 rfl)⟩
  have m_breaks : DefM u [k.R] "breaks" "Row.breaks" (inClass (topS 46) 2) := by
    obtain ⟨fd, F⟩ := c.tab.d.def_ 83 (d := dM "Row" "breaks" "Row.breaks" 46 2) rfl
    refine ⟨He.ma u.K (He.ga u.K "Row") "breaks", fd, F, fun C hC => ?_⟩
    simp only [List.mem_cons, List.not_mem_nil, or_false] at hC
    subst hC
    · exact ⟨l_Row, He.meth_ok (c.tab.d.fact 156 rfl)⟩
  have m_nobreaks : DefM u [k.C] "breaks" "Box.breaks" (inClass (topS 43) 9) := by
    obtain ⟨fd, F⟩ := c.tab.d.def_ 84 (d := dM "Box" "breaks" "Box.breaks" 43 9) rfl
    refine ⟨He.ma u.K (He.ga u.K "Box") "breaks", fd, F, fun C hC => ?_⟩
    simp only [List.mem_cons, List.not_mem_nil, or_false] at hC
    subst hC
    · exact ⟨l_Column, meth_same (He.meth_ok (c.tab.d.fact 157 rfl)) (c.b 21 rfl)⟩
  have m_tall : DefM u [k.P] "tall" "Plain.tall" (inClass (topS 44) 2) := by
    obtain ⟨fd, F⟩ := c.tab.d.def_ 85 (d := dM "Plain" "tall" "Plain.tall" 44 2) rfl
    refine ⟨He.ma u.K (He.ga u.K "Plain") "tall", fd, F, fun C hC => ?_⟩
    simp only [List.mem_cons, List.not_mem_nil, or_false] at hC
    subst hC
    · exact ⟨l_Plain, He.meth_ok (c.tab.d.fact 158 rfl)⟩
  have m_isKid : DefM u [He.ga u.K "Reader"] "is_kid" "Reader.is_kid" (inClass (topS 88) 2) := by
    obtain ⟨fd, F⟩ := c.tab.d.def_ 91 (d := dM "Reader" "is_kid" "Reader.is_kid" 88 2) rfl
    refine ⟨He.ma u.K (He.ga u.K "Reader") "is_kid", fd, F, fun C hC => ?_⟩
    simp only [List.mem_cons, List.not_mem_nil, or_false] at hC
    subst hC
    · exact ⟨l_Reader, He.meth_ok (c.tab.d.fact 163 rfl)⟩
  have bm : BxM u k := bxm bt cf m_name m_sizes m_kids m_gap m_lean m_breaks m_nobreaks m_tall
  have o_PR := one_of (c.b 22 rfl)
  have o_RR := one_of (c.b 23 rfl)
  have o_CR := one_of (c.b 24 rfl)
  have o_PC := one_of (c.b 25 rfl)
  have o_CC := one_of (c.b 26 rfl)
  have bq : BxK u k := by
    refine ⟨cf, He.glo_ok X0 G0 (c.tab.d.fact 80 rfl), He.glo_ok X0 G0 (c.tab.d.fact 81 rfl), o_PR, o_RR, o_CR, ?_, ?_, ?_⟩
    · unfold PySem.W.kitAny PySem.W.kitAny PySem.W.kitAny; rw [show PySem.W.kitOne u.K (.ref k.P) (.ref k.R) = _ from o_PR, show PySem.W.kitOne u.K (.ref k.P) (.ref k.C) = _ from o_PC]
    · unfold PySem.W.kitAny; rw [show PySem.W.kitOne u.K (.ref k.R) (.ref k.R) = _ from o_RR]
    · unfold PySem.W.kitAny PySem.W.kitAny; rw [show PySem.W.kitOne u.K (.ref k.C) (.ref k.R) = _ from o_CR, show PySem.W.kitOne u.K (.ref k.C) (.ref k.C) = _ from o_CC]
  obtain ⟨z1, Fz1⟩ := c.tab.d.def_ 86 (d := dM "Plain" "tree" "Plain.tree" 44 1) rfl
  obtain ⟨z2, Fz2⟩ := c.tab.d.def_ 87 (d := dM "Row" "tree" "Row.tree" 46 1) rfl
  obtain ⟨z3, Fz3⟩ := c.tab.d.def_ 88 (d := dM "Column" "tree" "Column.tree" 47 0) rfl
  have tn : TreeN u k 6 := trees bt cf ⟨Fz1, Fz2, Fz3, He.meth_ok (c.tab.d.fact 159 rfl), He.meth_ok (c.tab.d.fact 160 rfl), He.meth_ok (c.tab.d.fact 161 rfl)⟩ 6
  obtain ⟨z4, Fz4⟩ := c.tab.d.def_ 72 (d := dM "Box" "__init__" "Box.__init__" 43 0) rfl
  obtain ⟨z5, Fz5⟩ := c.tab.d.def_ 74 (d := dM "Around" "__init__" "Around.__init__" 45 0) rfl
  obtain ⟨z6, Fz6⟩ := c.tab.d.def_ 73 (d := dM "Plain" "__init__" "Plain.__init__" 44 0) rfl
  obtain ⟨z7, Fz7⟩ := c.tab.d.def_ 75 (d := dM "Row" "__init__" "Row.__init__" 46 0) rfl
  obtain ⟨z8, Fz8⟩ := c.tab.d.def_ 76 (d := dM "Column" "__init__" "Around.__init__" 45 0) rfl
  have i1 : DefI u "Box" "Box.__init__" (inClass (topS 43) 0) := ini_of (He.glo_ok X0 G0 (c.tab.d.fact 77 rfl)) (c.b 27 rfl) Fz4
  have i2 : DefI u "Around" "Around.__init__" (inClass (topS 45) 0) := ini_of (He.glo_ok X0 G0 (c.tab.d.fact 79 rfl)) (c.b 28 rfl) Fz5
  have bk : BxMk u k := bxmk bt cf i1 i2 ⟨_, _, He.glo_ok X0 G0 (c.tab.d.fact 78 rfl), He.mkr_ok (c.tab.d.fact 164 rfl), Fz6⟩ ⟨_, _, He.glo_ok X0 G0 (c.tab.d.fact 80 rfl), He.mkr_ok (c.tab.d.fact 165 rfl), Fz7⟩ ⟨_, _, He.glo_ok X0 G0 (c.tab.d.fact 81 rfl), He.mkr_ok (c.tab.d.fact 166 rfl), Fz8⟩
  have mnames : ∀ C ∈ [k.P, k.R, k.C], MC u C "names" 7 (spNames k u.K 6) := by
    obtain ⟨f, fd, F, hM⟩ := m_names
    exact fun C hC => ⟨f, fd, ["self"], (hM C hC).1, (hM C hC).2, F.bindsN (fun _ _ _ _ _ _ us hl => match us, hl with | [_], _ => rfl), fn_names cf F hM 6⟩
  obtain ⟨z9, Fz9⟩ := c.tab.d.def_ 89 (d := dM "Reader" "__init__" "Reader.__init__" 88 0) rfl
  obtain ⟨y1, Fy1⟩ := c.tab.d.def_ 90 (d := dM "Reader" "tree" "Reader.tree" 88 1) rfl
  have mkR : MkC u "Reader" (He.ga u.K "Reader") 1 (sp_readI u) := ⟨_, _, ["self", "rows"], He.glo_ok X0 G0 (c.tab.d.fact 82 rfl), He.mkr_ok (c.tab.d.fact 167 rfl), Fz9.bindsN (fun _ _ _ _ _ _ us hl => match us, hl with | [_, _], _ => rfl), ok_readI Fz9⟩
  have mk1 := mc_isKid bt f_Reader m_isKid
  have v_common_divisor := c_common_divisor d_common_divisor
  have v_part_of := c_part_of d_part_of v_common_divisor bt
  have v_part_of1 := c_part_of1 d_part_of v_common_divisor bt
  have v_is_more := c_is_more d_is_more
  have v_lesser := c_lesser v_is_more d_lesser
  have v_greater := c_greater v_is_more d_greater
  have v_is_whole := c_is_whole bt d_is_whole
  have v_is_part := c_is_part bt v_is_whole v_common_divisor d_is_part
  have v_added := c_added v_part_of d_added
  have v_less := c_less v_part_of d_less
  have v_product := c_product v_part_of d_product
  have v_quotient := c_quotient v_part_of d_quotient
  have v_is_within := c_is_within v_is_more v_added d_is_within
  have v_at_point := c_at_point v_is_within d_at_point
  have v_innermost := c_innermost v_at_point d_innermost
  have v_have_common := c_have_common v_is_more v_added v_lesser v_greater d_have_common
  have v_crossing := c_crossing v_have_common d_crossing
  have v_place_of := c_place_of d_place_of
  have v_goes_into := c_goes_into bt v_is_more v_part_of1 d_goes_into
  have v_broken := c_broken bt v_goes_into d_broken
  have v_is_number := c_is_number bt d_is_number
  have v_is_item := c_is_item bt v_is_number g_MOST_SIZE_sharing g_MOST_WEIGHT_sharing d_is_item
  have v_need_items := c_need_items bt v_is_item d_need_items
  have v_width_at := c_width_at v_is_item v_added v_product v_lesser v_greater v_part_of1 d_width_at
  have v_total_of := c_total_of v_added g_NOUGHT_sharing d_total_of
  have v_bound_of := c_bound_of v_part_of d_bound_of
  have v_weight_of := c_weight_of d_weight_of
  have v_weight_beyond := c_weight_beyond bt v_bound_of v_is_more v_weight_of d_weight_beyond
  have v_ends_of := c_ends_of bt v_bound_of v_is_more d_ends_of
  have v_far_share := c_far_share bt v_weight_beyond v_ends_of v_product v_less v_is_more v_added v_quotient v_part_of1 g_NOUGHT_sharing d_far_share
  have v_share_of := c_share_of bt v_less v_far_share v_part_of1 g_NOUGHT_sharing d_share_of
  have v_shared := c_shared bt v_need_items v_share_of v_less v_total_of v_greater v_width_at g_NOUGHT_sharing d_shared
  have v_need := c_need d_need
  have v_is_size := c_is_size v_is_whole g_MOST_SIZE_boxes d_is_size
  have v_is_weight := c_is_weight v_is_whole g_MOST_WEIGHT_boxes d_is_weight
  have v_are_sizes := c_are_sizes bt v_is_size v_is_weight d_are_sizes
  have v_is_name := c_is_name bt g_MOST_SIGNS g_LETTERS g_SIGNS g_KEPT d_is_name
  have v_is_figures := c_is_figures bt g_FIGURES d_is_figures
  have v_made_of : Callable u "made_of" 11 (sp_made u k 6) [] := c_made_of bt bk v_need v_is_name v_are_sizes v_is_size g_MOST_WITHIN g_LEANS_boxes g_MOST_KIDS d_made_of 6
  have v_box_of := c_box_of bt v_made_of mnames v_need g_MOST_BOXES d_box_of
  have v_need_width := c_need_width v_is_part d_need_width
  have v_lines_in := c_lines_in bt bm bq v_broken d_lines_in
  have v_line_widths := c_line_widths bt bm bq v_shared v_less v_lesser v_greater v_part_of1 g_NOUGHT_laying d_line_widths
  have v_shifted := c_shifted v_added d_shifted
  have v_placed : Callable u "placed" 24 (sp_placed u k 6) [] := c_placedN bt bm bq ld v_lines_in v_line_widths v_shifted v_product v_added v_greater v_part_of1 g_NOUGHT_laying d_line_laid d_placed 6
  have v_laid := c_laid v_need_width v_placed d_laid
  have v_size_text := c_size_text bt d_size_text
  have v_row_of := c_row_of bt bm tn v_size_text d_row_of
  have v_rows_of : Callable u "rows_of" 14 (sp_rows_of u k 6) [] := c_rows_of bt bm v_row_of d_rows_of 6
  have v_written := c_written bt v_rows_of d_written
  have v_size_in := c_size_in bt v_is_figures d_size_in
  have v_parts_of := c_parts_of bt v_size_in d_parts_of
  have mtR : MC u (He.ga u.K "Reader") "tree" 10 (spRdTree u (He.ga u.K "Reader") 6) := ⟨_, _, ["self", "depth"], l_Reader, He.meth_ok (c.tab.d.fact 162 rfl), Fy1.bindsN (fun _ _ _ _ _ _ us hl => match us, hl with | [_, _], _ => rfl), fn_rdTree bt f_Reader mk1 v_parts_of g_MOST_DEEP Fy1 l_Reader (He.meth_ok (c.tab.d.fact 162 rfl)) 6⟩
  have v_read_box := c_read_box bt f_Reader mkR mtR v_box_of v_written d_read_box
  have v_law_gcd := c_law_gcd d__law_gcd
  have v_law_part := c_law_part bt v_law_gcd d__law_part
  have v_law_sum := c_law_sum v_law_part d__law_sum
  have v_law_less := c_law_less d__law_less
  have v_law_in := c_law_in v_law_less v_law_sum d__law_in
  have v_law_size := c_law_size d__law_size
  have v_law_sizes := c_law_sizes bt v_law_size d__law_sizes
  have v_law_width := c_law_width bt v_law_part d__law_width
  have v_law_row := c_law_row bt d__law_row
  have v_law_kept := c_law_kept d__law_kept
  have v_law_spot := c_law_spot bt v_law_sum v_law_part d__law_spot
  have v_law_right := c_law_right bt v_at_point v_innermost v_law_in v_place_of v_crossing d__law_right
  have v_law_parents : Callable u "_law_parents" 7 (sp_parents u 6) [] := c_law_parents d__law_parents 6
  have v_law_within := c_law_within bt v_law_less d__law_within
  have v_law_name := c_law_name bt v_law_kept d__law_name
  have v_law_names := c_law_names bt v_law_name d__law_names
  have v_law_made : Callable u "_law_made" 9 (sp_law_made u 6) [] := c_law_made bt v_law_size v_law_sizes d__law_made 6
  have v_law_tree := c_law_tree bt v_law_row v_law_names v_law_made d__law_tree
  exact c_law bt v_law_row v_law_tree v_law_parents v_read_box v_written v_box_of v_laid v_law_width v_law_within v_law_spot v_law_right F
def spL (K : PySem.W.Frag) : Sp := fun vs H Q _ => ∃ ss : List Int, ss.length ≤ 63 ∧ Pf [isR K (ss.map isI)] (isB true) vs H Q
theorem ints_all {S : Hp} : ∀ ns : List Int, All S (ns.map isI) (ns.map V.int)
  | [] => .nil
  | n :: ns => .cons rfl (ints_all ns)
theorem spL_of {K : PySem.W.Frag} {H : Hp} {a : Addr} {ns : List Int} (h : ns.length ≤ 63) (q : SqL K H a (ns.map V.int)) (E : XK) : spL K [.ref a] H (fun v _ => v = .bl true) E := by
  have e : hid [] H = H := funext fun b => hid_out (fun z => by cases z)
  refine ⟨ns, h, [], (fun _ z => by cases z), .cons ⟨a, ns.map V.int, rfl, by rw [e]; exact q, ints_all ns⟩ .nil, fun v H' _ p => p⟩
theorem ready {w : World} {K : PySem.W.Frag} {h : Heap} {mg : Str → Option Value} {f : Addr} (X0 : K.In h) (G0 : h.Ns mainGlobals mg) (hfa : mg ("law" : Str) = some (.ref f)) (c : Told fa fn tabs exs w K) :
    ∃ fd : FuncData, (∀ (s : Shared) (v : Value), BindsTo s fd ⟨[v], []⟩ [("_law_script", v)]) ∧ ∀ base : Heap, K.In base → base.Ns mainGlobals mg → FnOk R.prog w K mg base CX0 26 f fd ["_law_script"] (spL K) := by
  obtain ⟨fd, F⟩ := c.tab.d.def_ 71 (d := dG 109 "law") rfl
  have e := hfa.symm.trans (He.glo_ok X0 G0 (c.tab.d.fact 71 (f := .glo "law") rfl))
  cases e
  have b := FunD.bindsA (ps := ["_law_script"]) F fun _ _ _ _ _ _ us hl => match us, hl with | [_], _ => rfl
  exact ⟨fd, fun s v => b s [v] rfl, fun base X1 G1 => law_ok (u := ⟨R.prog, w, K, mg, base⟩) X1 G1 c F⟩
end Hd
end Wd
end

section
set_option maxRecDepth 100000
set_option maxHeartbeats 0
open PySem PySem.W PySem.Calls PyProof.Rows
theorem PySem.Challenge.cw_widthwise_k54_whole_no_two_share_a_point_holds : PySem.Challenge.rw_widthwise_k54_whole_no_two_share_a_point.Holds := by
  w_on; o_law
  refine HandSHeadRun.head_any (r := OpenLaw.row PySem.Challenge.rw_widthwise_k54_whole_no_two_share_a_point) (q := view (OpenLaw.row PySem.Challenge.rw_widthwise_k54_whole_no_two_share_a_point).prog [109]) (H := Wd.Hd.hk) (ob := Wd.Hd.ob) (M := 8000) (loose := Wd.Hd.lo) (d := HandSHeadRun.topDef (OpenLaw.row PySem.Challenge.rw_widthwise_k54_whole_no_two_share_a_point).prog 109) (kwd := []) Wd.Hd.ob_eq
    (by kernel_rfl) (fun s => by kernel_rfl) Wd.Hd.run (by kernel_rfl) (by kernel_rfl) (by kernel_rfl) (by rfl) (by first | assumption | decide +kernel) (by decide +kernel) ⟨rfl, rfl, rfl, rfl, rfl, by decide +kernel⟩ ?hw ?hc
  case hw => w_witness2
  case hc =>
    refine L2.walk_ofE (l := PySem.Challenge.rw_widthwise_k54_whole_no_two_share_a_point) (n := 63) (k := 26) (x := "_law_script") (CX := L2.CX0) rfl (by decide) (by kernel_rfl) ⟨rfl, by decide, by decide⟩ ?F (fun _ _ _ _ z => z)
    intro w mg fa h Y G hmg0
    obtain ⟨K, KX, c⟩ := Y
    have hmg : mg ("law" : PySem.Str) = some (.ref fa) := by
      have e : (HandSHeadRun.topDef (OpenLaw.row PySem.Challenge.rw_widthwise_k54_whole_no_two_share_a_point).prog 109).name = ("law" : PySem.Str) := by kernel_rfl
      rw [← e]
      exact hmg0
    obtain ⟨fd, hb, hF⟩ := Wd.Hd.ready KX G hmg c
    exact ⟨K, fd, Wd.Hd.spL K, KX, hb, fun H a ns hl _ hS => Wd.Hd.spL_of hl hS _, hF⟩
end
