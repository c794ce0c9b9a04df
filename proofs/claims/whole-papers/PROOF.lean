import PyProof.Rows.All
import Wide.All
import OpenK.AllK
import Wide.FinOn
import HandS.Words
import HandS.Defaults
import HandS.Head0
import HandS.Head1
import HandS.Head2
import HandS.HeadEnd
import HandS.HeadHook1
import HandS.HeadHook2
import KE.KStateDown
import HandS.ForMost
import HandS.Wide
import HandS.TupAny
import HandS.TupMul
import HandS.Zip
import HandS.Conv
import HandS.Deep
import HandS.IsInst
import HandS.Strs
import HandS.Style
import HandS.Walk
import HandS.More
import KE.GoesEnum
import KE.KDictZip
import KE.KDictItemsList
import HandS.ListItems
import PySem.Challenge.RW_evenpoints_k35_whole_papers_carried_on
set_option Elab.async false
set_option linter.all false
set_option maxRecDepth 100000
set_option maxHeartbeats 0
namespace EP
open PySem PySem.Spec PyProof.Rows L2
def topS (i : Nat) : Stmt := PySem.Challenge.pw_evenpoints_k35_whole_papers_carried_on.main.body.getD i (.Pass ⟨0, 0, 0, 0⟩)
end EP
namespace HX
open PySem PySem.Spec PyProof.Rows L2 EP
/-! ### constants of the module -/
inductive CV where
  | int (i : Int) | tup (cs : List CV)
mutual
def repB (K : PySem.W.Frag) : Nat → Value → CV → Bool
  | _ + 1, .int j _, .int i => decide (j = i)
  | n + 1, .ref a, .tup ds => (match K.lookup a with
    | some ⟨.type c, _, .seq its _, _⟩ => decide (c = "tuple") && (decide (its.size ≤ sizeLine) && repsB K n its.toList ds)
    | _ => false)
  | _, _, _ => false
def repsB (K : PySem.W.Frag) : Nat → List Value → List CV → Bool
  | _ + 1, [], [] => true
  | n + 1, u :: us, d :: ds => repB K n u d && repsB K n us ds
  | _, _, _ => false
end
def conB (K : PySem.W.Frag) (c : Str × CV) : Bool := match PySem.W.nsIn K mainGlobals c.1 with
  | some (some u) => repB K 12 u c.2
  | _ => false
/-! ### what the head looks at -/
def loose0 : List PySem.Str := ["EvenError", "Nought", "TooMany", "NoPaper", "NOUGHT_fractions", "ONE_fractions", "is_whole", "shared", "is_fraction", "fraction", "plus", "less", "times", "is_below", "in_size", "NOUGHT_cells", "ONE_cells", "from_nought", "from_nought_cells", "is_surely", "is_perhaps", "side_between", "side_sizes", "cell_told", "sides_of", "numbers_at", "WHOLE_RANGE", "MOST_PATH", "first_cell", "is_number_below"]
def loose1 : List PySem.Str := ["kind_of", "with_side", "cut_cells", "way_cells", "leaf_word", "fault_at", "cells_behind", "look_over", "lets_even", "from_nought_boxes", "side_size", "size_of", "is_behind", "is_ahead", "lies", "lies_in", "inside", "over_of", "lack_of", "ONE_looks", "BELOW", "MOST_LOOKS", "side_looks", "many_at_side", "many_looks", "looks", "misses_of", "worst", "unevenness", "NOUGHT_evenpapers"]
def loose2 : List PySem.Str := ["ONE_evenpapers", "even_exchanged", "half_of", "whole_side", "even_shadow", "even_inner", "even_corner", "only_part", "grafted", "even_joined", "_law_feed", "_law_draw", "_law_frac", "_law_cmp", "_law_side_size", "_law_side_told", "_law_ends", "_law_product", "_law_cell_told", "_law_first", "_law_behind", "_law_needs", "_law_need", "_law_world", "_law_order", "_law_full", "_law_small", "_law_holds", "_law_shadows"]
def loose : List PySem.Str := loose0 ++ loose1 ++ loose2
def defs0 : List He.DefD := [⟨("shared", none), "shared", "shared", defArgs (topS 9), defBody (topS 9), defScope (topS 9), [], []⟩, ⟨("fraction", none), "fraction", "fraction", defArgs (topS 11), defBody (topS 11), defScope (topS 11), [], []⟩, ⟨("plus", none), "plus", "plus", defArgs (topS 12), defBody (topS 12), defScope (topS 12), [], []⟩, ⟨("less", none), "less", "less", defArgs (topS 13), defBody (topS 13), defScope (topS 13), [], []⟩, ⟨("times", none), "times", "times", defArgs (topS 14), defBody (topS 14), defScope (topS 14), [], []⟩, ⟨("is_below", none), "is_below", "is_below", defArgs (topS 15), defBody (topS 15), defScope (topS 15), [], []⟩, ⟨("from_nought_cells", none), "from_nought", "from_nought", defArgs (topS 20), defBody (topS 20), defScope (topS 20), [], []⟩, ⟨("from_nought_boxes", none), "from_nought", "from_nought", defArgs (topS 45), defBody (topS 45), defScope (topS 45), [], []⟩, ⟨("is_surely", none), "is_surely", "is_surely", defArgs (topS 22), defBody (topS 22), defScope (topS 22), [], []⟩, ⟨("is_perhaps", none), "is_perhaps", "is_perhaps", defArgs (topS 23), defBody (topS 23), defScope (topS 23), [], []⟩, ⟨("side_between", none), "side_between", "side_between", defArgs (topS 24), defBody (topS 24), defScope (topS 24), [], []⟩, ⟨("side_sizes", none), "side_sizes", "side_sizes", defArgs (topS 25), defBody (topS 25), defScope (topS 25), [], []⟩, ⟨("cell_told", none), "cell_told", "cell_told", defArgs (topS 26), defBody (topS 26), defScope (topS 26), [], []⟩, ⟨("is_whole", none), "is_whole", "is_whole", defArgs (topS 8), defBody (topS 8), defScope (topS 8), [], []⟩, ⟨("is_fraction", none), "is_fraction", "is_fraction", defArgs (topS 10), defBody (topS 10), defScope (topS 10), [], []⟩, ⟨("is_number_below", none), "is_number_below", "is_number_below", defArgs (topS 34), defBody (topS 34), defScope (topS 34), [], []⟩, ⟨("kind_of", none), "kind_of", "kind_of", defArgs (topS 35), defBody (topS 35), defScope (topS 35), [], []⟩, ⟨("with_side", none), "with_side", "with_side", defArgs (topS 36), defBody (topS 36), defScope (topS 36), [], []⟩, ⟨("cut_cells", none), "cut_cells", "cut_cells", defArgs (topS 37), defBody (topS 37), defScope (topS 37), [], []⟩, ⟨("way_cells", none), "way_cells", "way_cells", defArgs (topS 38), defBody (topS 38), defScope (topS 38), [], []⟩]
def defs1 : List He.DefD := [⟨("cells_behind", none), "cells_behind", "cells_behind", defArgs (topS 41), defBody (topS 41), defScope (topS 41), [], []⟩, ⟨("leaf_word", none), "leaf_word", "leaf_word", defArgs (topS 39), defBody (topS 39), defScope (topS 39), [], []⟩, ⟨("sides_of", none), "sides_of", "sides_of", defArgs (topS 28), defBody (topS 28), defScope (topS 28), [], []⟩, ⟨("first_cell", none), "first_cell", "first_cell", defArgs (topS 33), defBody (topS 33), defScope (topS 33), [], []⟩, ⟨("fault_at", none), "fault_at", "fault_at", defArgs (topS 40), defBody (topS 40), defScope (topS 40), [], []⟩, ⟨("look_over", none), "look_over", "look_over", defArgs (topS 42), defBody (topS 42), defScope (topS 42), [], []⟩, ⟨("lets_even", none), "lets_even", "lets_even", defArgs (topS 43), defBody (topS 43), defScope (topS 43), [], []⟩, ⟨("side_size", none), "side_size", "side_size", defArgs (topS 47), defBody (topS 47), defScope (topS 47), [], []⟩, ⟨("size_of", none), "size_of", "size_of", defArgs (topS 48), defBody (topS 48), defScope (topS 48), [], []⟩, ⟨("is_behind", none), "is_behind", "is_behind", defArgs (topS 49), defBody (topS 49), defScope (topS 49), [], []⟩, ⟨("is_ahead", none), "is_ahead", "is_ahead", defArgs (topS 50), defBody (topS 50), defScope (topS 50), [], []⟩, ⟨("lies", none), "lies", "lies", defArgs (topS 51), defBody (topS 51), defScope (topS 51), [], []⟩, ⟨("lies_in", none), "lies_in", "lies_in", defArgs (topS 52), defBody (topS 52), defScope (topS 52), [], []⟩, ⟨("inside", none), "inside", "inside", defArgs (topS 53), defBody (topS 53), defScope (topS 53), [], []⟩, ⟨("over_of", none), "over_of", "over_of", defArgs (topS 54), defBody (topS 54), defScope (topS 54), [], []⟩, ⟨("lack_of", none), "lack_of", "lack_of", defArgs (topS 55), defBody (topS 55), defScope (topS 55), [], []⟩, ⟨("misses_of", none), "misses_of", "misses_of", defArgs (topS 64), defBody (topS 64), defScope (topS 64), [], []⟩, ⟨("in_size", none), "in_size", "in_size", defArgs (topS 16), defBody (topS 16), defScope (topS 16), [], []⟩, ⟨("numbers_at", none), "numbers_at", "numbers_at", defArgs (topS 29), defBody (topS 29), defScope (topS 29), [], []⟩, ⟨("many_at_side", none), "many_at_side", "many_at_side", defArgs (topS 61), defBody (topS 61), defScope (topS 61), [], []⟩]
def defs2 : List He.DefD := [⟨("many_looks", none), "many_looks", "many_looks", defArgs (topS 62), defBody (topS 62), defScope (topS 62), [], []⟩, ⟨("side_looks", none), "side_looks", "side_looks", defArgs (topS 60), defBody (topS 60), defScope (topS 60), [], []⟩, ⟨("looks", none), "looks", "looks", defArgs (topS 63), defBody (topS 63), defScope (topS 63), [], []⟩, ⟨("worst", none), "worst", "worst", defArgs (topS 65), defBody (topS 65), defScope (topS 65), [], []⟩, ⟨("unevenness", none), "unevenness", "unevenness", defArgs (topS 66), defBody (topS 66), defScope (topS 66), [], []⟩, ⟨("even_exchanged", none), "even_exchanged", "even_exchanged", defArgs (topS 70), defBody (topS 70), defScope (topS 70), [], []⟩, ⟨("half_of", none), "half_of", "half_of", defArgs (topS 71), defBody (topS 71), defScope (topS 71), [], []⟩, ⟨("whole_side", none), "whole_side", "whole_side", defArgs (topS 72), defBody (topS 72), defScope (topS 72), [], []⟩, ⟨("even_shadow", none), "even_shadow", "even_shadow", defArgs (topS 73), defBody (topS 73), defScope (topS 73), [], []⟩, ⟨("even_inner", none), "even_inner", "even_inner", defArgs (topS 74), defBody (topS 74), defScope (topS 74), [], []⟩, ⟨("even_corner", none), "even_corner", "even_corner", defArgs (topS 75), defBody (topS 75), defScope (topS 75), [], []⟩, ⟨("only_part", none), "only_part", "only_part", defArgs (topS 76), defBody (topS 76), defScope (topS 76), [], []⟩, ⟨("grafted", none), "grafted", "grafted", defArgs (topS 77), defBody (topS 77), defScope (topS 77), [], []⟩, ⟨("even_joined", none), "even_joined", "even_joined", defArgs (topS 78), defBody (topS 78), defScope (topS 78), [], []⟩, ⟨("_law_frac", none), "_law_frac", "_law_frac", defArgs (topS 82), defBody (topS 82), defScope (topS 82), [], []⟩, ⟨("_law_cmp", none), "_law_cmp", "_law_cmp", defArgs (topS 83), defBody (topS 83), defScope (topS 83), [], []⟩, ⟨("_law_side_size", none), "_law_side_size", "_law_side_size", defArgs (topS 84), defBody (topS 84), defScope (topS 84), [], []⟩, ⟨("_law_side_told", none), "_law_side_told", "_law_side_told", defArgs (topS 85), defBody (topS 85), defScope (topS 85), [], []⟩, ⟨("_law_ends", none), "_law_ends", "_law_ends", defArgs (topS 86), defBody (topS 86), defScope (topS 86), [], []⟩, ⟨("_law_product", none), "_law_product", "_law_product", defArgs (topS 87), defBody (topS 87), defScope (topS 87), [], []⟩]
def defs3 : List He.DefD := [⟨("_law_cell_told", none), "_law_cell_told", "_law_cell_told", defArgs (topS 88), defBody (topS 88), defScope (topS 88), [], []⟩, ⟨("_law_first", none), "_law_first", "_law_first", defArgs (topS 89), defBody (topS 89), defScope (topS 89), [], []⟩, ⟨("_law_behind", none), "_law_behind", "_law_behind", defArgs (topS 90), defBody (topS 90), defScope (topS 90), [], []⟩, ⟨("_law_needs", none), "_law_needs", "_law_needs", defArgs (topS 91), defBody (topS 91), defScope (topS 91), [], []⟩, ⟨("_law_need", none), "_law_need", "_law_need", defArgs (topS 92), defBody (topS 92), defScope (topS 92), [], []⟩, ⟨("_law_holds", none), "_law_holds", "_law_holds", defArgs (topS 97), defBody (topS 97), defScope (topS 97), [], []⟩, ⟨("_law_full", none), "_law_full", "_law_full", defArgs (topS 95), defBody (topS 95), defScope (topS 95), [], []⟩, ⟨("_law_draw", none), "_law_draw", "_law_draw", defArgs (topS 81), defBody (topS 81), defScope (topS 81), [], []⟩, ⟨("_law_order", none), "_law_order", "_law_order", defArgs (topS 94), defBody (topS 94), defScope (topS 94), [], []⟩, ⟨("_law_small", none), "_law_small", "_law_small", defArgs (topS 96), defBody (topS 96), defScope (topS 96), [], []⟩, ⟨("_law_world", none), "_law_world", "_law_world", defArgs (topS 93), defBody (topS 93), defScope (topS 93), [], []⟩, ⟨("_law_shadows", none), "_law_shadows", "_law_shadows", defArgs (topS 98), defBody (topS 98), defScope (topS 98), [], []⟩, ⟨("_law_feed", none), "_law_feed", "_law_feed", defArgs (topS 80), defBody (topS 80), defScope (topS 80), [], []⟩, ⟨("law", none), "law", "law", defArgs (topS 99), defBody (topS 99), defScope (topS 99), [], []⟩]
def defs : List He.DefD := defs0 ++ defs1 ++ defs2 ++ defs3
def facts0 : List He.Fa := [.glo "shared", .glo "fraction", .glo "plus", .glo "less", .glo "times", .glo "is_below", .glo "from_nought_cells", .glo "from_nought_boxes", .glo "is_surely", .glo "is_perhaps", .glo "side_between", .glo "side_sizes", .glo "cell_told", .glo "is_whole", .glo "is_fraction", .glo "is_number_below", .glo "kind_of", .glo "with_side", .glo "cut_cells", .glo "way_cells", .glo "cells_behind", .glo "leaf_word", .glo "sides_of", .glo "first_cell", .glo "fault_at", .glo "look_over", .glo "lets_even", .glo "side_size", .glo "size_of", .glo "is_behind"]
def facts1 : List He.Fa := [.glo "is_ahead", .glo "lies", .glo "lies_in", .glo "inside", .glo "over_of", .glo "lack_of", .glo "misses_of", .glo "in_size", .glo "numbers_at", .glo "many_at_side", .glo "many_looks", .glo "side_looks", .glo "looks", .glo "worst", .glo "unevenness", .glo "even_exchanged", .glo "half_of", .glo "whole_side", .glo "even_shadow", .glo "even_inner", .glo "even_corner", .glo "only_part", .glo "grafted", .glo "even_joined", .glo "_law_frac", .glo "_law_cmp", .glo "_law_side_size", .glo "_law_side_told", .glo "_law_ends", .glo "_law_product"]
def facts2 : List He.Fa := [.glo "_law_cell_told", .glo "_law_first", .glo "_law_behind", .glo "_law_needs", .glo "_law_need", .glo "_law_holds", .glo "_law_full", .glo "_law_draw", .glo "_law_order", .glo "_law_small", .glo "_law_world", .glo "_law_shadows", .glo "_law_feed", .glo "law", .free "isinstance", .free "int", .free "bool", .free "tuple", .free "list", .free "len", .free "abs", .free "all", .free "any", .free "zip", .free "range", .free "min", .free "max"]
def facts : List He.Fa := facts0 ++ facts1 ++ facts2
def cons0 : List (Str × CV) := [("NOUGHT_fractions", .tup [.int (0), .int (1)]), ("ONE_fractions", .tup [.int (1), .int (1)]), ("NOUGHT_cells", .tup [.int (0), .int (1)]), ("ONE_cells", .tup [.int (1), .int (1)]), ("WHOLE_RANGE", .tup [.tup [.int (-1), .int (1)], .tup [.int (1), .int (1)]]), ("MOST_PATH", .int (36)), ("ONE_looks", .tup [.int (1), .int (1)]), ("BELOW", .tup [.int (-1), .int (1)]), ("MOST_LOOKS", .int (3000)), ("NOUGHT_evenpapers", .tup [.int (0), .int (1)]), ("ONE_evenpapers", .tup [.int (1), .int (1)])]
def cons : List (Str × CV) := cons0
abbrev R : PySem.W.OpenRow := PySem.W.OpenLaw.row PySem.Challenge.rw_evenpoints_k35_whole_papers_carried_on
def obsK (K : PySem.W.Frag) : Bool × He.AlD := (cons.all (conB K), He.obsD facts defs K)
def SaysK (K : PySem.W.Frag) : Prop := He.SaysD facts defs K ∧ cons.all (conB K) = true
def obsKG (g : Addr → Option Obj) : Bool × He.AlD := obsK (He.frG g (He.asD g 2))
def hk : PySem.W.Hook where
  α := Bool × He.AlD
  obs := fun s => obsKG s.heap.get?
  val := fun _ => (true, He.valD defs)
  says := fun _ h => ∃ K : PySem.W.Frag, K.In h ∧ SaysK K
  of := fun _ _ e => ⟨_, He.frG_in, congrArg (fun z : Bool × He.AlD => z.2) e, congrArg (fun z : Bool × He.AlD => z.1) e⟩
  keeps := fun _ _ _ ⟨K, hK, c⟩ k => ⟨K, PySem.W.Frag.In.keeps hK k, c⟩
def ob (s : PySem.W.SharedT) : Bool × He.AlD := obsKG (HandSHeadRun.getT s)
theorem ob_eq (s : PySem.W.SharedT) : ob s = hk.obs s.abs := by
  have e : HandSHeadRun.getT s = s.abs.heap.get? := funext (HandSHeadRun.getT_eq s)
  show obsKG (HandSHeadRun.getT s) = obsKG s.abs.heap.get?
  rw [e]
abbrev qv : Program := PySem.W.view R.prog [99]
theorem run (w : World) : HandSHeadRun.RunEq R qv hk ob 6000 loose w := by
  intro os
  kernel_rfl
end HX

set_option Elab.async false
set_option linter.all false
set_option maxRecDepth 100000
set_option maxHeartbeats 4000000
/-! A data layer over the hand layer: values as data without a heap. -/
namespace DL
open PySem PySem.Spec PyProof.Rows L2

/-- what a value is, without the heap; feed: the object that the draws turn -/
inductive D where
  | non | bl (b : Bool) | int (i : Int) | str (x : Str) | tup (ds : List D) | lst (ds : List D) | ord (ns : List Int) | feed

def Ex (H H' : Hp) : Prop := ∀ a o, H a = some o → H' a = some o
theorem Ex.refl (H : Hp) : Ex H H := fun _ _ h => h
theorem Ex.trans {H H1 H2 : Hp} (a : Ex H H1) (b : Ex H1 H2) : Ex H H2 := fun x o h => b x o (a x o h)
theorem Ex.new {H : Hp} {p : Addr} {o : HO} (h : H p = none) : Ex H (upd H p o) := fun a u e => by
  rw [upd_ne (ne_of_none e h)]
  exact e
theorem Ex.free {H H' : Hp} {p : Addr} (e : Ex H H') (h : H' p = none) : H p = none := by
  cases h1 : H p with
  | none => rfl
  | some o =>
    rw [e p o h1] at h
    cases h
theorem Ex.sqT {K : PySem.W.Frag} {H H' : Hp} {a : Addr} {xs : List V} (e : Ex H H') (h : SqT K H a xs) : SqT K H' a xs := by
  rcases h with (h | ⟨o, h⟩) | h
  · exact .inl (.inl (e _ _ h))
  · exact .inl (.inr ⟨o, e _ _ h⟩)
  · exact .inr h
theorem Ex.sqL {K : PySem.W.Frag} {H H' : Hp} {a : Addr} {xs : List V} (e : Ex H H') (h : SqL K H a xs) : SqL K H' a xs := by
  rcases h with (h | ⟨o, h⟩) | h
  · exact .inl (.inl (e _ _ h))
  · exact .inl (.inr ⟨o, e _ _ h⟩)
  · exact .inr h

/-- the pairs of the feed's dict -/
def feedKvs (c : Addr) (at_ left turn : Int) : List (Key × V) := [(.inr "cells", .ref c), (.inr "at", .int at_), (.inr "left", .int left), (.inr "turn", .int turn)]
def IsFK (kvs : List (Key × V)) : Prop := ∃ (c : Addr) (a l t : Int), kvs = feedKvs c a l t
def FeedShape (K : PySem.W.Frag) (H0 : Hp) (kvs : List (Key × V)) : Prop := ∃ (c : Addr) (ns : List Int) (a l t : Int), kvs = feedKvs c a l t ∧ H0 c = some (.lst (ns.map V.int)) ∧ ns.length ≤ 63
theorem FeedShape.mono {K : PySem.W.Frag} {H H' : Hp} {kvs : List (Key × V)} (e : Ex H H') (h : FeedShape K H kvs) : FeedShape K H' kvs := by
  obtain ⟨c, ns, a, l, t, h1, h2, h3⟩ := h
  exact ⟨c, ns, a, l, t, h1, e _ _ h2, h3⟩
def IsFeed (K : PySem.W.Frag) (H0 H : Hp) (a : Addr) : Prop := H0 a = none ∧ ∃ kvs, H a = some (.dK kvs) ∧ FeedShape K H0 kvs

/-- a tuple of ints without a dict of its own, at a -/
def ordO (a : Addr) (ns : List Int) : HO := .ext fun h => ∃ its : List Value, Vals (ns.map V.int) its ∧ ∃ n, h.get? a = some { cls := .type "tuple", data := .seq its.toArray n }
mutual
/-- v is d, in what stands still -/
inductive Rep (K : PySem.W.Frag) (H0 : Hp) : V → D → Prop
  | non : Rep K H0 .non .non
  | bl (b : Bool) : Rep K H0 (.bl b) (.bl b)
  | int (i : Int) : Rep K H0 (.int i) (.int i)
  | str (x : Str) : Rep K H0 (.str x) (.str x)
  | tup {a : Addr} {xs : List V} {ds : List D} : SqT K H0 a xs → Reps K H0 xs ds → Rep K H0 (.ref a) (.tup ds)
  | lst {a : Addr} {xs : List V} {ds : List D} : H0 a = some (.lst xs) → Reps K H0 xs ds → Rep K H0 (.ref a) (.lst ds)
  | ord {a : Addr} {ns : List Int} : H0 a = some (ordO a ns) → Rep K H0 (.ref a) (.ord ns)
inductive Reps (K : PySem.W.Frag) (H0 : Hp) : List V → List D → Prop
  | nil : Reps K H0 [] []
  | cons {v : V} {vs : List V} {d : D} {ds : List D} : Rep K H0 v d → Reps K H0 vs ds → Reps K H0 (v :: vs) (d :: ds)
end
/-- an argument: a value, or the feed -/
def RepA (K : PySem.W.Frag) (H0 H : Hp) (v : V) (d : D) : Prop := Rep K H0 v d ∨ d = .feed ∧ ∃ a, v = .ref a ∧ IsFeed K H0 H a
abbrev RepAs (K : PySem.W.Frag) (H0 H : Hp) : List V → List D → Prop := Paired (RepA K H0 H)

/-- from (H0, H) to (H0', H'): all that was tracked is as it was but dicts, which may turn; what was not still is not still -/
structure Gr (K : PySem.W.Frag) (H0 H H0' H' : Hp) : Prop where
  e0 : Ex H0 H0'
  e : ∀ a o, H a = some o → (∀ kvs, o ≠ .dK kvs) → H' a = some o
  dk : ∀ a kvs, H a = some (.dK kvs) → ∃ kvs', H' a = some (.dK kvs') ∧ (FeedShape K H0 kvs → FeedShape K H0' kvs') ∧ (¬ IsFK kvs → kvs' = kvs)
  sep : ∀ p, H0 p = none → H p ≠ none → H0' p = none
section
variable {K : PySem.W.Frag} {H0 H H0' H' H0'' H'' : Hp}
theorem Gr.refl (K : PySem.W.Frag) (H0 H : Hp) : Gr K H0 H H0 H := ⟨Ex.refl _, fun _ _ h _ => h, fun a kvs h => ⟨kvs, h, id, fun _ => rfl⟩, fun _ h _ => h⟩
theorem Gr.there (g : Gr K H0 H H0' H') {a : Addr} (h : H a ≠ none) : H' a ≠ none := by
  cases q : H a with
  | none => exact absurd q h
  | some o =>
    by_cases hd : ∃ kvs, o = .dK kvs
    · obtain ⟨kvs, rfl⟩ := hd
      obtain ⟨kvs', h', _⟩ := g.dk a kvs q
      rw [h']
      exact fun z => nomatch z
    · rw [g.e a o q fun kvs e => hd ⟨kvs, e⟩]
      exact fun z => nomatch z
theorem Gr.trans (a : Gr K H0 H H0' H') (b : Gr K H0' H' H0'' H'') : Gr K H0 H H0'' H'' where
  e0 := a.e0.trans b.e0
  e := fun x o h n => b.e x o (a.e x o h n) n
  dk := fun x kvs h => by
    obtain ⟨k1, h1, f1, n1⟩ := a.dk x kvs h
    obtain ⟨k2, h2, f2, n2⟩ := b.dk x k1 h1
    exact ⟨k2, h2, fun z => f2 (f1 z), fun z => (n2 (by rw [n1 z]; exact z)).trans (n1 z)⟩
  sep := fun p h n => b.sep p (a.sep p h n) (a.there n)
theorem Gr.lst (g : Gr K H0 H H0' H') {a : Addr} {xs : List V} (h : H a = some (.lst xs)) : H' a = some (.lst xs) := g.e a _ h fun _ z => nomatch z
/-- a new thing that stands still -/
theorem Gr.new {p : Addr} {o : HO} (x : Ex H0 H) (h : H p = none) : Gr K H0 H (upd H0 p o) (upd H p o) where
  e0 := Ex.new (x.free h)
  e := fun a u q _ => Ex.new h a u q
  dk := fun a kvs q => ⟨kvs, Ex.new h a _ q, FeedShape.mono (Ex.new (x.free h)), fun _ => rfl⟩
  sep := fun q h1 h2 => by
    have : q ≠ p := fun e => h2 (e ▸ h)
    rw [upd_ne this]
    exact h1
/-- a new thing that may turn -/
theorem Gr.newM {p : Addr} {o : HO} (h : H p = none) : Gr K H0 H H0 (upd H p o) where
  e0 := Ex.refl _
  e := fun a u q _ => Ex.new h a u q
  dk := fun a kvs q => ⟨kvs, Ex.new h a _ q, id, fun _ => rfl⟩
  sep := fun q h1 _ => h1
theorem Ex.new2 {p : Addr} {o : HO} (x : Ex H0 H) (h : H p = none) : Ex (upd H0 p o) (upd H p o) := fun a u e => by
  by_cases q : a = p
  · subst q
    rw [upd_same] at e ⊢
    exact e
  · rw [upd_ne q] at e ⊢
    exact x a u e
theorem IsFeed.mono (g : Gr K H0 H H0' H') {a : Addr} (h : IsFeed K H0 H a) : IsFeed K H0' H' a := by
  obtain ⟨h1, kvs, h2, h3⟩ := h
  obtain ⟨k', q, f, _⟩ := g.dk a kvs h2
  exact ⟨g.sep a h1 (by rw [h2]; exact fun z => nomatch z), k', q, f h3⟩
mutual
theorem Rep.mono (e0 : Ex H0 H0') : ∀ (d : D) (v : V), Rep K H0 v d → Rep K H0' v d
  | .non, _, h => by cases h; exact .non
  | .bl b, _, h => by cases h; exact .bl b
  | .int i, _, h => by cases h; exact .int i
  | .str x, _, h => by cases h; exact .str x
  | .tup ds, _, h => by
    cases h with
    | tup h1 h2 => exact .tup (e0.sqT h1) (Reps.mono e0 ds _ h2)
  | .lst ds, _, h => by
    cases h with
    | lst h1 h2 => exact .lst (e0 _ _ h1) (Reps.mono e0 ds _ h2)
  | .ord ns, _, h => by
    cases h with
    | ord h1 => exact .ord (e0 _ _ h1)
  | .feed, _, h => by cases h
theorem Reps.mono (e0 : Ex H0 H0') : ∀ (ds : List D) (vs : List V), Reps K H0 vs ds → Reps K H0' vs ds
  | [], _, h => by cases h; exact .nil
  | d :: ds, _, h => by
    cases h with
    | cons h1 h2 => exact .cons (Rep.mono e0 d _ h1) (Reps.mono e0 ds _ h2)
end
theorem Rep.up (e : Ex H0 H0') {d : D} {v : V} (h : Rep K H0 v d) : Rep K H0' v d := Rep.mono e d v h
theorem Reps.up (e : Ex H0 H0') {d : List D} {v : List V} (h : Reps K H0 v d) : Reps K H0' v d := Reps.mono e d v h
theorem RepA.up (g : Gr K H0 H H0' H') {d : D} {v : V} (h : RepA K H0 H v d) : RepA K H0' H' v d := by
  rcases h with h | ⟨h1, a, h2, h3⟩
  · exact .inl (h.up g.e0)
  · exact .inr ⟨h1, a, h2, h3.mono g⟩
theorem Reps.args : ∀ {vs : List V} {ds : List D}, Reps K H0 vs ds → RepAs K H0 H vs ds
  | _, _, .nil => .nil
  | _, _, .cons r t => .cons (.inl r) (Reps.args t)
theorem Reps.length : ∀ {vs : List V} {ds : List D}, Reps K H0 vs ds → vs.length = ds.length
  | _, _, .nil => rfl
  | _, _, .cons _ t => by
    show _ + 1 = _ + 1
    rw [Reps.length t]
theorem Reps.get : ∀ {vs : List V} {ds : List D} {i : Nat} {d : D}, Reps K H0 vs ds → ds[i]? = some d → ∃ v, vs[i]? = some v ∧ Rep K H0 v d
  | _, _, _, _, .nil, e => by simp at e
  | _, _, 0, _, .cons r _, e => by simp at e; subst e; exact ⟨_, rfl, r⟩
  | _, _, i + 1, x, .cons _ t, e => by
    obtain ⟨u, h1, h2⟩ := Reps.get (i := i) (d := x) t (by simpa using e)
    exact ⟨u, by simpa using h1, h2⟩
theorem Reps.getV : ∀ {vs : List V} {ds : List D} {i : Nat} {v : V}, Reps K H0 vs ds → vs[i]? = some v → ∃ d, ds[i]? = some d ∧ Rep K H0 v d
  | _, _, _, _, .nil, e => by simp at e
  | _, _, 0, _, .cons r _, e => by simp at e; subst e; exact ⟨_, rfl, r⟩
  | _, _, i + 1, x, .cons _ t, e => by
    obtain ⟨u, h1, h2⟩ := Reps.getV (i := i) (v := x) t (by simpa using e)
    exact ⟨u, by simpa using h1, h2⟩
theorem Reps.append : ∀ {xs ys : List V} {ds es : List D}, Reps K H0 xs ds → Reps K H0 ys es → Reps K H0 (xs ++ ys) (ds ++ es)
  | _, _, _, _, .nil, s => s
  | _, _, _, _, .cons r t, s => .cons r (Reps.append t s)
theorem Reps.take : ∀ {xs : List V} {ds : List D} (n : Nat), Reps K H0 xs ds → Reps K H0 (xs.take n) (ds.take n)
  | _, _, 0, _ => .nil
  | _, _, _ + 1, .nil => .nil
  | _, _, n + 1, .cons r t => .cons r (Reps.take n t)
theorem Reps.drop : ∀ {xs : List V} {ds : List D} (n : Nat), Reps K H0 xs ds → Reps K H0 (xs.drop n) (ds.drop n)
  | _, _, 0, r => r
  | _, _, _ + 1, .nil => .nil
  | _, _, n + 1, .cons _ t => Reps.drop n t
theorem Reps.rep {xs : List V} {ds : List D} (h : Reps K H0 xs ds) : ∀ k : Nat, Reps K H0 (List.replicate k xs).flatten (List.replicate k ds).flatten
  | 0 => .nil
  | k + 1 => by
    rw [List.replicate_succ, List.replicate_succ, List.flatten_cons, List.flatten_cons]
    exact h.append (h.rep k)
theorem Reps.reverse : ∀ {xs : List V} {ds : List D}, Reps K H0 xs ds → Reps K H0 xs.reverse ds.reverse
  | _, _, .nil => .nil
  | _, _, .cons r t => by
    rw [List.reverse_cons, List.reverse_cons]
    exact (Reps.reverse t).append (.cons r .nil)
theorem Reps.insertIdx {v : V} {d : D} (r : Rep K H0 v d) : ∀ {xs : List V} {ds : List D} (n : Nat), Reps K H0 xs ds → Reps K H0 (xs.insertIdx n v) (ds.insertIdx n d)
  | _, _, 0, h => .cons r h
  | _, _, n + 1, .nil => .nil
  | _, _, n + 1, .cons q t => .cons q (Reps.insertIdx r n t)
end

/-- a slot: a value; a list of the def's own that may still turn -/
inductive S where
  | val (d : D)
  | own (ds : List D)
  | feed
abbrev DEnv := List (Option S)

/-- since when: what stood still, what was tracked; what a loop around needs -/
structure Base where
  f : Hp
  b : Hp
  z : Hp
structure Hd (K : PySem.W.Frag) (β : Base) (ρ : DEnv) (H0 : Hp) (σ : L2.St) (H : Hp) : Prop where
  x : Ex H0 H
  g : Gr K β.f β.b H0 H
  z : Ex β.z H0
  len : σ.length = ρ.length
  val : ∀ (i : Nat) (d : D), ρ[i]? = some (some (.val d)) → ∃ v, σ[i]? = some (some v) ∧ Rep K H0 v d
  own : ∀ (i : Nat) (ds : List D), ρ[i]? = some (some (.own ds)) → ∃ p vs, σ[i]? = some (some (.ref p)) ∧ β.b p = none ∧ H0 p = none ∧ H p = some (.lst vs) ∧ Reps K H0 vs ds
  feed : ∀ (i : Nat), ρ[i]? = some (some .feed) → ∃ a, σ[i]? = some (some (.ref a)) ∧ IsFeed K H0 H a
  sep : ∀ (i j : Nat) (ds es : List D) (p : Addr), ρ[i]? = some (some (.own ds)) → ρ[j]? = some (some (.own es)) → σ[i]? = some (some (.ref p)) → σ[j]? = some (some (.ref p)) → i = j
section
variable {K : PySem.W.Frag} {β : Base} {H0 H H0' H' : Hp} {ρ : DEnv} {σ : L2.St}
theorem Hd.up (h : Hd K β ρ H0 σ H) (x : Ex H0' H') (g : Gr K H0 H H0' H') : Hd K β ρ H0' σ H' where
  x := x
  g := h.g.trans g
  z := h.z.trans g.e0
  len := h.len
  val := fun i d e => by
    obtain ⟨v, h1, h2⟩ := h.val i d e
    exact ⟨v, h1, h2.up g.e0⟩
  own := fun i ds e => by
    obtain ⟨p, vs, h1, h2, h3, h4, h5⟩ := h.own i ds e
    exact ⟨p, vs, h1, h2, g.sep p h3 (by rw [h4]; exact fun z => nomatch z), g.lst h4, h5.up g.e0⟩
  feed := fun i e => by
    obtain ⟨a, h1, h2⟩ := h.feed i e
    exact ⟨a, h1, h2.mono g⟩
  sep := h.sep
theorem get_set {α : Type} {l : List α} {i j : Nat} {a b : α} (h : (l.set i a)[j]? = some b) : (j = i ∧ i < l.length ∧ b = a) ∨ (j ≠ i ∧ l[j]? = some b) := by
  by_cases e : i = j
  · subst e
    by_cases hl : i < l.length
    · rw [List.getElem?_set_self hl] at h
      exact .inl ⟨rfl, hl, (Option.some.inj h).symm⟩
    · rw [List.getElem?_eq_none (by rw [List.length_set]; omega)] at h
      cases h
  · rw [List.getElem?_set_ne e] at h
    exact .inr ⟨fun z => e z.symm, h⟩
theorem Hd.set (h : Hd K β ρ H0 σ H) {i : Nat} {v : V} {d : D} (r : Rep K H0 v d) : Hd K β (ρ.set i (some (.val d))) H0 (σ.set i (some v)) H where
  x := h.x
  g := h.g
  z := h.z
  len := by rw [List.length_set, List.length_set]; exact h.len
  val := fun j e q => by
    rcases get_set q with ⟨rfl, hl, z⟩ | ⟨ne, z⟩
    · cases z
      exact ⟨v, List.getElem?_set_self (by rw [h.len]; exact hl), r⟩
    · obtain ⟨u, h1, h2⟩ := h.val j e z
      exact ⟨u, by rw [List.getElem?_set_ne (Ne.symm ne)]; exact h1, h2⟩
  own := fun j ds q => by
    rcases get_set q with ⟨rfl, hl, z⟩ | ⟨ne, z⟩
    · cases z
    · obtain ⟨p, vs, h1, h2⟩ := h.own j ds z
      exact ⟨p, vs, by rw [List.getElem?_set_ne (Ne.symm ne)]; exact h1, h2⟩
  feed := fun j q => by
    rcases get_set q with ⟨rfl, hl, z⟩ | ⟨ne, z⟩
    · cases z
    · obtain ⟨a, h1, h2⟩ := h.feed j z
      exact ⟨a, by rw [List.getElem?_set_ne (Ne.symm ne)]; exact h1, h2⟩
  sep := fun a b ds es p qa qb ea eb => by
    rcases get_set qa with ⟨rfl, hl, z⟩ | ⟨ne, z⟩
    · cases z
    · rcases get_set qb with ⟨rfl, hl', z'⟩ | ⟨ne', z'⟩
      · cases z'
      · rw [List.getElem?_set_ne (Ne.symm ne)] at ea
        rw [List.getElem?_set_ne (Ne.symm ne')] at eb
        exact h.sep a b ds es p z z' ea eb
/-- a slot forgotten on both sides -/
theorem Hd.del (h : Hd K β ρ H0 σ H) (i : Nat) : Hd K β (ρ.set i none) H0 (σ.set i none) H where
  x := h.x
  g := h.g
  z := h.z
  len := by rw [List.length_set, List.length_set]; exact h.len
  val := fun j e q => by
    rcases get_set q with ⟨rfl, hl, z⟩ | ⟨ne, z⟩
    · cases z
    · obtain ⟨u, h1, h2⟩ := h.val j e z
      exact ⟨u, by rw [List.getElem?_set_ne (Ne.symm ne)]; exact h1, h2⟩
  own := fun j ds q => by
    rcases get_set q with ⟨rfl, hl, z⟩ | ⟨ne, z⟩
    · cases z
    · obtain ⟨p, vs, h1, h2⟩ := h.own j ds z
      exact ⟨p, vs, by rw [List.getElem?_set_ne (Ne.symm ne)]; exact h1, h2⟩
  feed := fun j q => by
    rcases get_set q with ⟨rfl, hl, z⟩ | ⟨ne, z⟩
    · cases z
    · obtain ⟨a, h1, h2⟩ := h.feed j z
      exact ⟨a, by rw [List.getElem?_set_ne (Ne.symm ne)]; exact h1, h2⟩
  sep := fun a b ds es p qa qb ea eb => by
    rcases get_set qa with ⟨rfl, hl, z⟩ | ⟨ne, z⟩
    · cases z
    · rcases get_set qb with ⟨rfl, hl', z'⟩ | ⟨ne', z'⟩
      · cases z'
      · rw [List.getElem?_set_ne (Ne.symm ne)] at ea
        rw [List.getElem?_set_ne (Ne.symm ne')] at eb
        exact h.sep a b ds es p z z' ea eb
/-- a slot forgotten in what is said alone -/
theorem Hd.forget (h : Hd K β ρ H0 σ H) (i : Nat) : Hd K β (ρ.set i none) H0 σ H where
  x := h.x
  g := h.g
  z := h.z
  len := by rw [List.length_set]; exact h.len
  val := fun j e q => by
    rcases get_set q with ⟨rfl, hl, z⟩ | ⟨ne, z⟩
    · cases z
    · exact h.val j e z
  own := fun j ds q => by
    rcases get_set q with ⟨rfl, hl, z⟩ | ⟨ne, z⟩
    · cases z
    · exact h.own j ds z
  feed := fun j q => by
    rcases get_set q with ⟨rfl, hl, z⟩ | ⟨ne, z⟩
    · cases z
    · exact h.feed j z
  sep := fun a b ds es p qa qb ea eb => by
    rcases get_set qa with ⟨rfl, hl, z⟩ | ⟨ne, z⟩
    · cases z
    · rcases get_set qb with ⟨rfl, hl', z'⟩ | ⟨ne', z'⟩
      · cases z'
      · exact h.sep a b ds es p z z' ea eb
/-- a new list of the def's own -/
theorem Hd.setOwn (h : Hd K β ρ H0 σ H) {i : Nat} {p : Addr} {vs : List V} {ds : List D} (h0 : H0 p = none) (hp : H p = some (.lst vs)) (hb : β.b p = none) (r : Reps K H0 vs ds)
    (no : ∀ (j : Nat) (es : List D), ρ[j]? = some (some (.own es)) → σ[j]? ≠ some (some (.ref p))) : Hd K β (ρ.set i (some (.own ds))) H0 (σ.set i (some (.ref p))) H := by
  refine ⟨h.x, h.g, h.z, by rw [List.length_set, List.length_set]; exact h.len, fun j e q => ?_, fun j es q => ?_, fun j q => ?_, fun a b es fs q qa qb ea eb => ?_⟩
  · rcases get_set q with ⟨rfl, hl, z⟩ | ⟨ne, z⟩
    · cases z
    · obtain ⟨u, h1, h2⟩ := h.val j e z
      exact ⟨u, by rw [List.getElem?_set_ne (Ne.symm ne)]; exact h1, h2⟩
  · rcases get_set q with ⟨rfl, hl, z⟩ | ⟨ne, z⟩
    · cases z
      exact ⟨p, vs, List.getElem?_set_self (by rw [h.len]; exact hl), hb, h0, hp, r⟩
    · obtain ⟨q, ws, h1, h2⟩ := h.own j es z
      exact ⟨q, ws, by rw [List.getElem?_set_ne (Ne.symm ne)]; exact h1, h2⟩
  · rcases get_set q with ⟨rfl, hl, z⟩ | ⟨ne, z⟩
    · cases z
    · obtain ⟨a, h1, h2⟩ := h.feed j z
      exact ⟨a, by rw [List.getElem?_set_ne (Ne.symm ne)]; exact h1, h2⟩
  · rcases get_set qa with ⟨ea', hl, z⟩ | ⟨ne, z⟩
    · subst ea'
      rw [List.getElem?_set_self (by rw [h.len]; exact hl)] at ea
      cases ea
      rcases get_set qb with ⟨rfl, hl', z'⟩ | ⟨ne', z'⟩
      · rfl
      · rw [List.getElem?_set_ne (Ne.symm ne')] at eb
        exact absurd eb (no b fs z')
    · rcases get_set qb with ⟨eb', hl', z'⟩ | ⟨ne', z'⟩
      · subst eb'
        rw [List.getElem?_set_self (by rw [h.len]; exact hl')] at eb
        cases eb
        rw [List.getElem?_set_ne (Ne.symm ne)] at ea
        exact absurd ea (no a es z)
      · rw [List.getElem?_set_ne (Ne.symm ne)] at ea
        rw [List.getElem?_set_ne (Ne.symm ne')] at eb
        exact h.sep a b es fs q z z' ea eb
/-- a list of the def's own turns -/
theorem Hd.turn (h : Hd K β ρ H0 σ H) {i : Nat} {p : Addr} {vs ws : List V} {ds es : List D} (hi : ρ[i]? = some (some (.own ds))) (hs : σ[i]? = some (some (.ref p))) (hp : H p = some (.lst vs)) (r : Reps K H0 ws es) :
    Hd K β (ρ.set i (some (.own es))) H0 σ (upd H p (.lst ws)) := by
  obtain ⟨p', vs', h1, hB, h0, hp', _⟩ := h.own i ds hi
  rw [hs] at h1
  cases h1
  have fd : ∀ a, IsFeed K H0 H a → IsFeed K H0 (upd H p (.lst ws)) a := fun a ⟨z0, kvs, z1, z2⟩ => ⟨z0, kvs, by
    rw [upd_ne (ne_of z1 hp (fun q => nomatch q))]
    exact z1, z2⟩
  have hl : i < σ.length := (List.getElem?_eq_some_iff.mp hs).1
  refine ⟨fun a o q => ?_, ⟨h.g.e0, fun a o q n => ?_, fun a kvs q => ?_, h.g.sep⟩, h.z, by rw [List.length_set]; exact h.len, fun j d q => ?_, fun j fs q => ?_, fun j q => ?_, fun a b gs fs q qa qb ea eb => ?_⟩
  · rw [upd_ne (ne_of_none q h0)]
    exact h.x a o q
  · rw [upd_ne (ne_of_none q hB)]
    exact h.g.e a o q n
  · obtain ⟨k', q', f⟩ := h.g.dk a kvs q
    exact ⟨k', by rw [upd_ne (ne_of_none q hB)]; exact q', f⟩
  · rcases get_set q with ⟨rfl, hl, z⟩ | ⟨ne, z⟩
    · cases z
    · exact h.val j d z
  · rcases get_set q with ⟨rfl, hl, z⟩ | ⟨ne, z⟩
    · cases z
      exact ⟨p, ws, hs, hB, h0, upd_same, r⟩
    · obtain ⟨q, us, h1, h2, h3, h4, h5⟩ := h.own j fs z
      have nq : q ≠ p := fun e => by
        subst e
        exact ne (h.sep j i fs ds q z hi h1 hs)
      exact ⟨q, us, h1, h2, h3, by rw [upd_ne nq]; exact h4, h5⟩
  · rcases get_set q with ⟨rfl, hl, z⟩ | ⟨ne, z⟩
    · cases z
    · obtain ⟨a, h1, h2⟩ := h.feed j z
      exact ⟨a, h1, fd a h2⟩
  · have oa : ∃ gs', ρ[a]? = some (some (.own gs')) := by
      rcases get_set qa with ⟨rfl, hl, z⟩ | ⟨ne, z⟩
      · exact ⟨ds, hi⟩
      · exact ⟨_, z⟩
    have ob : ∃ gs', ρ[b]? = some (some (.own gs')) := by
      rcases get_set qb with ⟨rfl, hl, z⟩ | ⟨ne, z⟩
      · exact ⟨ds, hi⟩
      · exact ⟨_, z⟩
    obtain ⟨_, za⟩ := oa
    obtain ⟨_, zb⟩ := ob
    exact h.sep a b _ _ q za zb ea eb
/-- from now on it stands still -/
theorem Hd.freeze (h : Hd K β ρ H0 σ H) {i : Nat} {ds : List D} (hi : ρ[i]? = some (some (.own ds))) : ∃ H0', Hd K β (ρ.set i (some (.val (.lst ds)))) H0' σ H := by
  obtain ⟨p, vs, hs, hB, h0, hp, r⟩ := h.own i ds hi
  have e0 : Ex H0 (upd H0 p (.lst vs)) := Ex.new h0
  have fd : ∀ a, IsFeed K H0 H a → IsFeed K (upd H0 p (.lst vs)) H a := fun a ⟨z0, kvs, z1, z2⟩ => ⟨by
    rw [upd_ne (ne_of z1 hp (fun q => nomatch q))]
    exact z0, kvs, z1, z2.mono e0⟩
  refine ⟨upd H0 p (.lst vs), fun a o q => ?_, ⟨h.g.e0.trans e0, h.g.e, fun a kvs q => ?_, fun q h1 h2 => ?_⟩, h.z.trans e0, by rw [List.length_set]; exact h.len, fun j d q => ?_, fun j fs q => ?_, fun j q => ?_, fun a b gs fs q qa qb ea eb => ?_⟩
  · by_cases e : a = p
    · subst e
      rw [upd_same] at q
      cases q
      exact hp
    · rw [upd_ne e] at q
      exact h.x a o q
  · obtain ⟨k', q', f, n⟩ := h.g.dk a kvs q
    exact ⟨k', q', fun z => (f z).mono e0, n⟩
  · have : q ≠ p := fun e => h2 (e ▸ hB)
    rw [upd_ne this]
    exact h.g.sep q h1 h2
  · rcases get_set q with ⟨rfl, hl, z⟩ | ⟨ne, z⟩
    · cases z
      exact ⟨.ref p, hs, .lst upd_same (r.up e0)⟩
    · obtain ⟨v, h1, h2⟩ := h.val j d z
      exact ⟨v, h1, h2.up e0⟩
  · rcases get_set q with ⟨rfl, hl, z⟩ | ⟨ne, z⟩
    · cases z
    · obtain ⟨q, us, h1, h2, h3, h4, h5⟩ := h.own j fs z
      have nq : q ≠ p := fun e => by
        subst e
        exact ne (h.sep j i fs ds q z hi h1 hs)
      exact ⟨q, us, h1, h2, by rw [upd_ne nq]; exact h3, h4, h5.up e0⟩
  · rcases get_set q with ⟨rfl, hl, z⟩ | ⟨ne, z⟩
    · cases z
    · obtain ⟨a, h1, h2⟩ := h.feed j z
      exact ⟨a, h1, fd a h2⟩
  · rcases get_set qa with ⟨rfl, hl, z⟩ | ⟨ne, z⟩
    · cases z
    · rcases get_set qb with ⟨rfl, hl', z'⟩ | ⟨ne', z'⟩
      · cases z'
      · exact h.sep a b gs fs q z z' ea eb
end
end DL

set_option Elab.async false
set_option linter.all false
set_option maxRecDepth 100000
set_option maxHeartbeats 4000000
namespace DL
open PySem PySem.Spec PyProof.Rows L2

abbrev TD := DEnv → (D → Prop) → Prop
abbrev TDT := DEnv → (Bool → Prop) → Prop
abbrev TDA := DEnv → (List D → Prop) → Prop

def DV (K : PySem.W.Frag) (t : TE) (T : TD) : Prop := ∀ (β : Base) (ρ : DEnv) (H0 : Hp) (σ : L2.St) (H : Hp) (F : D → Prop) (R : VK), Hd K β ρ H0 σ H → T ρ F →
  (∀ d v H0' H', F d → Hd K β ρ H0' σ H' → Gr K H0 H H0' H' → Rep K H0' v d → R v H') → t σ H R
structure DE (X : Cx) (e : Expr) (T : TD) : Prop where
  ex : ∃ t, PE X e t ∧ DV X.K t T
def DTV (K : PySem.W.Frag) (t : TT) (T : TDT) : Prop := ∀ (β : Base) (ρ : DEnv) (H0 : Hp) (σ : L2.St) (H : Hp) (F : Bool → Prop) (R : Bool → Hp → Prop), Hd K β ρ H0 σ H → T ρ F →
  (∀ b H0' H', F b → Hd K β ρ H0' σ H' → Gr K H0 H H0' H' → R b H') → t σ H R
structure DT (X : Cx) (e : Expr) (T : TDT) : Prop where
  ex : ∃ t, PT X e t ∧ DTV X.K t T
structure DW (X : Cx) (e : Expr) (T : TDT) : Prop where
  ex : ∃ t, PW X e t ∧ DTV X.K t T
/-- arguments, values all -/
def DAV (K : PySem.W.Frag) (n : Nat) (t : TA) (T : TDA) : Prop := ∀ (β : Base) (ρ : DEnv) (H0 : Hp) (σ : L2.St) (H : Hp) (F : List D → Prop) (R : List V → Hp → Prop), Hd K β ρ H0 σ H → T ρ F →
  (∀ ds vs H0' H', F ds → ds.length = n → Hd K β ρ H0' σ H' → Gr K H0 H H0' H' → Reps K H0' vs ds → R vs H') → t σ H R
structure DA (X : Cx) (es : List Expr) (T : TDA) : Prop where
  ex : ∃ t, PA X es t ∧ DAV X.K es.length t T
/-- arguments, the feed among them -/
def DFV (K : PySem.W.Frag) (t : TA) (T : TDA) : Prop := ∀ (β : Base) (ρ : DEnv) (H0 : Hp) (σ : L2.St) (H : Hp) (F : List D → Prop) (R : List V → Hp → Prop), Hd K β ρ H0 σ H → T ρ F →
  (∀ ds vs H0' H', F ds → Hd K β ρ H0' σ H' → Gr K H0 H H0' H' → RepAs K H0' H' vs ds → R vs H') → t σ H R
structure DF (X : Cx) (es : List Expr) (T : TDA) : Prop where
  ex : ∃ t, PA X es t ∧ DFV X.K t T

/-! ### operators by values -/
abbrev F2 := D → D → (D → Prop) → Prop
def LR2 (K : PySem.W.Frag) (r : R2) (f : F2) : Prop := ∀ (β : Base) (ρ : DEnv) (H0 : Hp) (σ : L2.St) (H : Hp) (x y : V) (dx dy : D) (F : D → Prop) (R : VK), Hd K β ρ H0 σ H → Rep K H0 x dx → Rep K H0 y dy → f dx dy F →
  (∀ d v H0' H', F d → Hd K β ρ H0' σ H' → Gr K H0 H H0' H' → Rep K H0' v d → R v H') → r x y H R
def LR1 (K : PySem.W.Frag) (r : V → Hp → VK → Prop) (f : D → (D → Prop) → Prop) : Prop := ∀ (β : Base) (ρ : DEnv) (H0 : Hp) (σ : L2.St) (H : Hp) (x : V) (dx : D) (F : D → Prop) (R : VK), Hd K β ρ H0 σ H → Rep K H0 x dx → f dx F →
  (∀ d v H0' H', F d → Hd K β ρ H0' σ H' → Gr K H0 H H0' H' → Rep K H0' v d → R v H') → r x H R
def LC (K : PySem.W.Frag) (r : List V → Hp → VK → Prop) (f : List D → (D → Prop) → Prop) : Prop := ∀ (β : Base) (ρ : DEnv) (H0 : Hp) (σ : L2.St) (H : Hp) (xs : List V) (ds : List D) (F : D → Prop) (R : VK), Hd K β ρ H0 σ H → Reps K H0 xs ds → f ds F →
  (∀ d v H0' H', F d → Hd K β ρ H0' σ H' → Gr K H0 H H0' H' → Rep K H0' v d → R v H') → r xs H R

section
variable {X : Cx} {a b : Expr} {es : List Expr} {Ta Tb : TD} {pos : Pos}
/-! ### names, constants -/
@[reducible, simp] def dVar (i : Nat) : TD := fun ρ F => ∃ d, ρ[i]? = some (some (.val d)) ∧ F d
@[reducible, simp] def dC (d : D) : TD := fun _ F => F d
theorem dv_var {K : PySem.W.Frag} (i : Nat) : DV K (tVar i) (dVar i) := fun β ρ H0 σ H F R hd ⟨d, e, f⟩ k => by
  obtain ⟨v, h1, h2⟩ := hd.val i d e
  exact ⟨v, h1, k d v H0 H f hd (Gr.refl _ _ _) h2⟩
theorem de_var (i : Nat) {x : Str} {pos : Pos} (hN : X.N[i]? = some x := by rfl) (hv : Vis X.env.scope x := by first | exact Or.inl rfl | exact Or.inr (Or.inl rfl) | exact Or.inr (Or.inr rfl)) (hd : (x == ("__debug__" : Str)) = false := by decide)
    (hcd : (x == ("__classdict__" : Str)) = false := by decide) : DE X (.Name x pos) (dVar i) := ⟨_, pe_var hN hv hd hcd, dv_var i⟩
theorem dv_c {K : PySem.W.Frag} {v : V} {d : D} (r : ∀ H0, Rep K H0 v d) : DV K (tC v) (dC d) := fun β ρ H0 σ H F R hd f k => k d v H0 H f hd (Gr.refl _ _ _) (r H0)
theorem de_int {i : Int} {j pos} : DE X (.Constant (.int i) j pos) (dC (.int i)) := ⟨_, pe_int, dv_c fun _ => .int i⟩
theorem de_bl {i : Bool} {j pos} : DE X (.Constant (.bool i) j pos) (dC (.bl i)) := ⟨_, pe_bl, dv_c fun _ => .bl i⟩
theorem de_non {j pos} : DE X (.Constant .none j pos) (dC .non) := ⟨_, pe_non, dv_c fun _ => .non⟩
theorem de_str {x : Str} {j pos} : DE X (.Constant (.str x) j pos) (dC (.str x)) := ⟨_, pe_str, dv_c fun _ => .str x⟩
theorem de_glob {x : Str} {v : V} {u : Value} {d : D} {pos : Pos} (hm : X.mg x = some u) (rd : ∀ H0, Rep X.K H0 v d) (r : RelV v u) (hg : Gl X x := by rfl) (hd : (x == ("__debug__" : Str)) = false := by decide) : DE X (.Name x pos) (dC d) :=
  ⟨_, pe_glob hg hm r hd, dv_c rd⟩

/-! ### operators -/
@[reducible, simp] def dOp (f : F2) (Ta Tb : TD) : TD := fun ρ F => Ta ρ fun x => Tb ρ fun y => f x y F
@[reducible, simp] def dUn (f : D → (D → Prop) → Prop) (Ta : TD) : TD := fun ρ F => Ta ρ fun x => f x F
theorem dv_op {K : PySem.W.Frag} {ta tb : TE} {r : R2} {f : F2} (l : LR2 K r f) (ha : DV K ta Ta) (hb : DV K tb Tb) : DV K (tOp r ta tb) (dOp f Ta Tb) := fun β ρ H0 σ H F R hd h k =>
  ha β ρ H0 σ H _ _ hd h fun x v H1 H1' hx hd1 g1 r1 => hb β ρ H1 σ H1' _ _ hd1 hx fun y u H2 H2' hy hd2 g2 r2 =>
    l β ρ H2 σ H2' v u x y F R hd2 (r1.up g2.e0) r2 hy fun d w H3 H3' hf hd3 g3 r3 => k d w H3 H3' hf hd3 ((g1.trans g2).trans g3) r3
theorem dv_un {K : PySem.W.Frag} {ta : TE} {r : V → Hp → VK → Prop} {f : D → (D → Prop) → Prop} (l : LR1 K r f) (ha : DV K ta Ta) : DV K (tUn r ta) (dUn f Ta) := fun β ρ H0 σ H F R hd h k =>
  ha β ρ H0 σ H _ _ hd h fun x v H1 H1' hx hd1 g1 r1 => l β ρ H1 σ H1' v x F R hd1 r1 hx fun d w H3 H3' hf hd3 g3 r3 => k d w H3 H3' hf hd3 (g1.trans g3) r3
theorem de_op {op : Operator} {r : R2} {f : F2} (ho : OpR X (binaryOp op) r) (l : LR2 X.K r f) (ha : DE X a Ta) (hb : DE X b Tb) : DE X (.BinOp a op b pos) (dOp f Ta Tb) := by
  obtain ⟨ta, pa, va⟩ := ha
  obtain ⟨tb, pb, vb⟩ := hb
  exact ⟨_, pe_op ho pa pb, dv_op l va vb⟩
theorem de_un {op : UnaryOp} {r : V → Hp → VK → Prop} {f : D → (D → Prop) → Prop} (ho : UnR X (unaryOp op) r) (l : LR1 X.K r f) (ha : DE X a Ta) : DE X (.UnaryOp op a pos) (dUn f Ta) := by
  obtain ⟨ta, pa, va⟩ := ha
  exact ⟨_, pe_un ho pa, dv_un l va⟩
theorem de_cmp {op : CmpOp} {r : R2} {f : F2} (ho : OpR X (compareOp op) r) (l : LR2 X.K r f) (ha : DE X a Ta) (hb : DE X b Tb) (hm : behindInMarks op b = false := by first | exact nomark _ | rfl) : DE X (.Compare a [op] [b] pos) (dOp f Ta Tb) := by
  obtain ⟨ta, pa, va⟩ := ha
  obtain ⟨tb, pb, vb⟩ := hb
  exact ⟨_, pe_cmpR ho pa pb hm, dv_op l va vb⟩
/-- a value as a test -/
@[reducible, simp] def dB (T : TD) : TDT := fun ρ F => T ρ fun x => ∃ c, x = .bl c ∧ F c
theorem dt_cmp {op : CmpOp} {r : R2} {f : F2} (ho : OpR X (compareOp op) r) (l : LR2 X.K r f) (ha : DE X a Ta) (hb : DE X b Tb) (hm : behindInMarks op b = false := by first | exact nomark _ | rfl) : DT X (.Compare a [op] [b] pos) (dB (dOp f Ta Tb)) := by
  obtain ⟨ta, pa, va⟩ := ha
  obtain ⟨tb, pb, vb⟩ := hb
  refine ⟨_, pt_cmpR ho pa pb hm, fun β ρ H0 σ H F R hd h k => ?_⟩
  refine dv_op l va vb β ρ H0 σ H _ _ hd h fun x v H1 H1' hx hd1 g1 r1 => ?_
  obtain ⟨c, rfl, hc⟩ := hx
  cases r1
  exact ⟨c, rfl, k c H1 H1' hc hd1 g1⟩
theorem dt_val {T : TD} (h : DE X a T) (he : ∀ whole, isTrue a X.env whole = (do let v ← whole; standAt a.pos; holding [v] (truthy v)) := by intro _; rfl) : DT X a (dB T) := by
  obtain ⟨ta, pa, va⟩ := h
  refine ⟨_, pt_val pa he, fun β ρ H0 σ H F R hd h k => ?_⟩
  refine va β ρ H0 σ H _ _ hd h fun x v H1 H1' hx hd1 g1 r1 => ?_
  obtain ⟨c, rfl, hc⟩ := hx
  cases r1
  exact ⟨c, rfl, k c H1 H1' hc hd1 g1⟩

/-! ### and, or, not, if -/
variable {TA TB : TDT} {rest : List Expr}
@[reducible, simp] def dAnd (t u : TDT) : TDT := fun ρ F => t ρ fun c => if c = true then u ρ F else F false
@[reducible, simp] def dOr (t u : TDT) : TDT := fun ρ F => t ρ fun c => if c = true then F true else u ρ F
@[reducible, simp] def dNot (t : TDT) : TDT := fun ρ F => t ρ fun c => F (!c)
theorem DW.dt {T : TDT} (h : DW X a T) : DT X a T := by
  obtain ⟨t, p, v⟩ := h
  exact ⟨t, p.pt, v⟩
theorem dw_and1 (h : DT X a TA) : DW X (.BoolOp .And [a] pos) TA := by
  obtain ⟨t, p, v⟩ := h
  exact ⟨t, pw_and1 p, v⟩
theorem dw_or1 (h : DT X a TA) : DW X (.BoolOp .Or [a] pos) TA := by
  obtain ⟨t, p, v⟩ := h
  exact ⟨t, pw_or1 p, v⟩
theorem dw_and (h : DT X a TA) (h2 : DW X (.BoolOp .And (b :: rest) pos) TB) : DW X (.BoolOp .And (a :: b :: rest) pos) (dAnd TA TB) := by
  obtain ⟨t, p, v⟩ := h
  obtain ⟨u, p2, v2⟩ := h2
  refine ⟨_, pw_and p p2, fun β ρ H0 σ H F R hd h k => ?_⟩
  refine v β ρ H0 σ H _ _ hd h fun c H1 H1' hc hd1 g1 => ?_
  cases c with
  | true => exact v2 β ρ H1 σ H1' F R hd1 hc fun c2 H2 H2' hf hd2 g2 => k c2 H2 H2' hf hd2 (g1.trans g2)
  | false => exact k false H1 H1' hc hd1 g1
theorem dw_or (h : DT X a TA) (h2 : DW X (.BoolOp .Or (b :: rest) pos) TB) : DW X (.BoolOp .Or (a :: b :: rest) pos) (dOr TA TB) := by
  obtain ⟨t, p, v⟩ := h
  obtain ⟨u, p2, v2⟩ := h2
  refine ⟨_, pw_or p p2, fun β ρ H0 σ H F R hd h k => ?_⟩
  refine v β ρ H0 σ H _ _ hd h fun c H1 H1' hc hd1 g1 => ?_
  cases c with
  | true => exact k true H1 H1' hc hd1 g1
  | false => exact v2 β ρ H1 σ H1' F R hd1 hc fun c2 H2 H2' hf hd2 g2 => k c2 H2 H2' hf hd2 (g1.trans g2)
theorem dt_not (h : DT X a TA) : DT X (.UnaryOp .Not a pos) (dNot TA) := by
  obtain ⟨t, p, v⟩ := h
  exact ⟨_, pt_not p, fun β ρ H0 σ H F R hd h k => v β ρ H0 σ H _ _ hd h fun c H1 H1' hc hd1 g1 => k _ H1 H1' hc hd1 g1⟩
/-- .. as values -/
@[reducible, simp] def dAndV (Ta Tb : TD) : TD := fun ρ F => Ta ρ fun x => ∃ c, x = .bl c ∧ if c = true then Tb ρ F else F (.bl false)
@[reducible, simp] def dOrV (Ta Tb : TD) : TD := fun ρ F => Ta ρ fun x => ∃ c, x = .bl c ∧ if c = true then F (.bl true) else Tb ρ F
@[reducible, simp] def dNotV (Ta : TD) : TD := fun ρ F => Ta ρ fun x => ∃ c, x = .bl c ∧ F (.bl (!c))
theorem de_one {op} (h : DE X a Ta) : DE X (.BoolOp op [a] pos) Ta := by
  obtain ⟨t, p, v⟩ := h
  exact ⟨t, pe_one p, v⟩
theorem de_and (h : DE X a Ta) (h2 : DE X (.BoolOp .And (b :: rest) pos) Tb) : DE X (.BoolOp .And (a :: b :: rest) pos) (dAndV Ta Tb) := by
  obtain ⟨t, p, v⟩ := h
  obtain ⟨u, p2, v2⟩ := h2
  refine ⟨_, pe_and p p2, fun β ρ H0 σ H F R hd h k => ?_⟩
  refine v β ρ H0 σ H _ _ hd h fun x w H1 H1' hx hd1 g1 r1 => ?_
  obtain ⟨c, rfl, hc⟩ := hx
  cases r1
  refine ⟨c, rfl, ?_⟩
  cases c with
  | true => exact v2 β ρ H1 σ H1' F R hd1 hc fun c2 w2 H2 H2' hf hd2 g2 r2 => k c2 w2 H2 H2' hf hd2 (g1.trans g2) r2
  | false => exact k (.bl false) (.bl false) H1 H1' hc hd1 g1 (.bl false)
theorem de_or (h : DE X a Ta) (h2 : DE X (.BoolOp .Or (b :: rest) pos) Tb) : DE X (.BoolOp .Or (a :: b :: rest) pos) (dOrV Ta Tb) := by
  obtain ⟨t, p, v⟩ := h
  obtain ⟨u, p2, v2⟩ := h2
  refine ⟨_, pe_or p p2, fun β ρ H0 σ H F R hd h k => ?_⟩
  refine v β ρ H0 σ H _ _ hd h fun x w H1 H1' hx hd1 g1 r1 => ?_
  obtain ⟨c, rfl, hc⟩ := hx
  cases r1
  refine ⟨c, rfl, ?_⟩
  cases c with
  | true => exact k (.bl true) (.bl true) H1 H1' hc hd1 g1 (.bl true)
  | false => exact v2 β ρ H1 σ H1' F R hd1 hc fun c2 w2 H2 H2' hf hd2 g2 r2 => k c2 w2 H2 H2' hf hd2 (g1.trans g2) r2
theorem de_not (h : DE X a Ta) : DE X (.UnaryOp .Not a pos) (dNotV Ta) := by
  obtain ⟨t, p, v⟩ := h
  refine ⟨_, pe_not p, fun β ρ H0 σ H F R hd h k => ?_⟩
  refine v β ρ H0 σ H _ _ hd h fun x w H1 H1' hx hd1 g1 r1 => ?_
  obtain ⟨c, rfl, hc⟩ := hx
  cases r1
  exact ⟨c, rfl, k (.bl (!c)) _ H1 H1' hc hd1 g1 (.bl _)⟩
@[reducible, simp] def dIf (t : TDT) (Ta Tb : TD) : TD := fun ρ F => t ρ fun c => if c = true then Ta ρ F else Tb ρ F
theorem de_if {c : Expr} (hc : DT X c TA) (ha : DE X a Ta) (hb : DE X b Tb) : DE X (.IfExp c a b pos) (dIf TA Ta Tb) := by
  obtain ⟨t, p, v⟩ := hc
  obtain ⟨ta, pa, va⟩ := ha
  obtain ⟨tb, pb, vb⟩ := hb
  refine ⟨_, pe_ifExp p pa pb, fun β ρ H0 σ H F R hd h k => ?_⟩
  refine v β ρ H0 σ H _ _ hd h fun c H1 H1' hc hd1 g1 => ?_
  cases c with
  | true => exact va β ρ H1 σ H1' F R hd1 hc fun c2 w2 H2 H2' hf hd2 g2 r2 => k c2 w2 H2 H2' hf hd2 (g1.trans g2) r2
  | false => exact vb β ρ H1 σ H1' F R hd1 hc fun c2 w2 H2 H2' hf hd2 g2 r2 => k c2 w2 H2 H2' hf hd2 (g1.trans g2) r2
/-- a < b < c -/
@[reducible, simp] def dChain (f f' : F2) (Ta Tb Tc : TD) : TD := fun ρ F => Ta ρ fun x => Tb ρ fun y => f x y fun z => ∃ k, z = .bl k ∧ if k = true then Tc ρ fun w => f' y w F else F (.bl false)
theorem de_chain {c : Expr} {Tc : TD} {op op' : CmpOp} {r r' : R2} {f f' : F2} (ho : OpR X (compareOp op) r) (l : LR2 X.K r f) (ho' : OpR X (compareOp op') r') (l' : LR2 X.K r' f') (ha : DE X a Ta) (hb : DE X b Tb) (hc : DE X c Tc)
    (hm : lastMarks [op, op'] [b, c] = false := by rfl) : DE X (.Compare a [op, op'] [b, c] pos) (dChain f f' Ta Tb Tc) := by
  obtain ⟨ta, pa, va⟩ := ha
  obtain ⟨tb, pb, vb⟩ := hb
  obtain ⟨tc, pc, vc⟩ := hc
  refine ⟨_, pe_chain ho ho' pa pb pc hm, fun β ρ H0 σ H F R hd h k => ?_⟩
  refine va β ρ H0 σ H _ _ hd h fun x v H1 H1' hx hd1 g1 r1 => ?_
  refine vb β ρ H1 σ H1' _ _ hd1 hx fun y u H2 H2' hy hd2 g2 r2 => ?_
  refine l β ρ H2 σ H2' v u x y _ _ hd2 (r1.up g2.e0) r2 hy fun z w H3 H3' hz hd3 g3 r3 => ?_
  obtain ⟨c, rfl, hc⟩ := hz
  cases r3
  refine ⟨c, rfl, ?_⟩
  cases c with
  | true =>
    refine vc β ρ H3 σ H3' _ _ hd3 hc fun w1 v4 H4 H4' h4 hd4 g4 r4 => ?_
    exact l' β ρ H4 σ H4' u v4 y w1 F R hd4 ((r2.up g3.e0).up g4.e0) r4 h4 fun d w5 H5 H5' hf hd5 g5 r5 => k d w5 H5 H5' hf hd5 ((((g1.trans g2).trans g3).trans g4).trans g5) r5
  | false => exact k (.bl false) (.bl false) H3 H3' hc hd3 ((g1.trans g2).trans g3) (.bl false)

/-! ### arguments -/
@[reducible, simp] def dNil : TDA := fun _ F => F []
@[reducible, simp] def dCons (T : TD) (U : TDA) : TDA := fun ρ F => T ρ fun x => U ρ fun xs => F (x :: xs)
theorem da_nil : DA X [] dNil := ⟨_, pa_nil, fun β ρ H0 σ H F R hd f k => k [] [] H0 H f rfl hd (Gr.refl _ _ _) .nil⟩
theorem da_cons {U : TDA} (h : DE X a Ta) (hr : DA X es U) (hs : starEach (a :: es) X.env = (false, eval a X.env) :: starEach es X.env := by rfl) : DA X (a :: es) (dCons Ta U) := by
  obtain ⟨t, p, v⟩ := h
  obtain ⟨u, p2, v2⟩ := hr
  refine ⟨_, pa_cons p p2 hs, fun β ρ H0 σ H F R hd h k => ?_⟩
  refine v β ρ H0 σ H _ _ hd h fun x w H1 H1' hx hd1 g1 r1 => ?_
  exact v2 β ρ H1 σ H1' _ _ hd1 hx fun ds vs H2 H2' hf hl hd2 g2 r2 => k (x :: ds) (w :: vs) H2 H2' hf (by rw [List.length_cons, List.length_cons, hl]) hd2 (g1.trans g2) (.cons (r1.up g2.e0) r2)
theorem df_nil : DF X [] dNil := ⟨_, pa_nil, fun β ρ H0 σ H F R hd f k => k [] [] H0 H f hd (Gr.refl _ _ _) .nil⟩
theorem RepAs.up {K : PySem.W.Frag} {H0 H H0' H' : Hp} (g : Gr K H0 H H0' H') : ∀ {vs : List V} {ds : List D}, RepAs K H0 H vs ds → RepAs K H0' H' vs ds
  | _, _, .nil => .nil
  | _, _, .cons r t => .cons (r.up g) (RepAs.up g t)
theorem df_cons {U : TDA} (h : DE X a Ta) (hr : DF X es U) (hs : starEach (a :: es) X.env = (false, eval a X.env) :: starEach es X.env := by rfl) : DF X (a :: es) (dCons Ta U) := by
  obtain ⟨t, p, v⟩ := h
  obtain ⟨u, p2, v2⟩ := hr
  refine ⟨_, pa_cons p p2 hs, fun β ρ H0 σ H F R hd h k => ?_⟩
  refine v β ρ H0 σ H _ _ hd h fun x w H1 H1' hx hd1 g1 r1 => ?_
  exact v2 β ρ H1 σ H1' _ _ hd1 hx fun ds vs H2 H2' hf hd2 g2 r2 => k (x :: ds) (w :: vs) H2 H2' hf hd2 (g1.trans g2) (.cons (.inl (r1.up g2.e0)) r2)
/-- the feed as an argument -/
@[reducible, simp] def dConsF (i : Nat) (U : TDA) : TDA := fun ρ F => ρ[i]? = some (some .feed) ∧ U ρ fun xs => F (.feed :: xs)
theorem df_feed {U : TDA} (i : Nat) {x : Str} {pos : Pos} (hr : DF X es U) (hN : X.N[i]? = some x := by rfl) (hv : Vis X.env.scope x := by first | exact Or.inl rfl | exact Or.inr (Or.inl rfl) | exact Or.inr (Or.inr rfl)) (hd : (x == ("__debug__" : Str)) = false := by decide)
    (hcd : (x == ("__classdict__" : Str)) = false := by decide) (hs : starEach (.Name x pos :: es) X.env = (false, eval (.Name x pos) X.env) :: starEach es X.env := by rfl) : DF X (.Name x pos :: es) (dConsF i U) := by
  obtain ⟨u, p2, v2⟩ := hr
  refine ⟨_, pa_cons (pe_var hN hv hd hcd) p2 hs, fun β ρ H0 σ H F R hd ⟨h1, h2⟩ k => ?_⟩
  obtain ⟨c, hc, hf⟩ := hd.feed i h1
  refine ⟨.ref c, hc, ?_⟩
  exact v2 β ρ H0 σ H _ _ hd h2 fun ds vs H2 H2' hf2 hd2 g2 r2 => k (.feed :: ds) (.ref c :: vs) H2 H2' hf2 hd2 g2 (.cons (.inr ⟨rfl, c, rfl, hf.mono g2⟩) r2)

/-! ### tuples, lists -/
@[reducible, simp] def dTup (U : TDA) : TD := fun ρ F => U ρ fun ds => F (.tup ds)
@[reducible, simp] def dLst (U : TDA) : TD := fun ρ F => U ρ fun ds => F (.lst ds)
theorem line100 {n : Nat} (h : n ≤ 100000) : n ≤ sizeLine := Nat.le_trans h (by decide)
theorem new_tup {K : PySem.W.Frag} {β : Base} {H0 H : Hp} {ρ : DEnv} {σ : L2.St} {vs : List V} {ds : List D} {F : D → Prop} {R : VK} (hd : Hd K β ρ H0 σ H) (r : Reps K H0 vs ds) (f : F (.tup ds))
    (k : ∀ d v H0' H', F d → Hd K β ρ H0' σ H' → Gr K H0 H H0' H' → Rep K H0' v d → R v H') : ∀ p, H p = none → R (.ref p) (upd H p (.tup vs)) := fun p hp =>
  have g : Gr K H0 H _ _ := Gr.new (o := .tup vs) hd.x hp
  k _ _ _ _ f (hd.up (Ex.new2 hd.x hp) g) g (.tup (.inl (.inl upd_same)) (r.up g.e0))
theorem new_lst {K : PySem.W.Frag} {β : Base} {H0 H : Hp} {ρ : DEnv} {σ : L2.St} {vs : List V} {ds : List D} {F : D → Prop} {R : VK} (hd : Hd K β ρ H0 σ H) (r : Reps K H0 vs ds) (f : F (.lst ds))
    (k : ∀ d v H0' H', F d → Hd K β ρ H0' σ H' → Gr K H0 H H0' H' → Rep K H0' v d → R v H') : ∀ p, H p = none → R (.ref p) (upd H p (.lst vs)) := fun p hp =>
  have g : Gr K H0 H _ _ := Gr.new (o := .lst vs) hd.x hp
  k _ _ _ _ f (hd.up (Ex.new2 hd.x hp) g) g (.lst upd_same (r.up g.e0))
theorem de_tup {U : TDA} {x1} (h : DA X es U) (hz : es.length ≤ 100000 := by decide) : DE X (.Tuple es x1 pos) (dTup U) := by
  obtain ⟨u, p, v⟩ := h
  refine ⟨_, pe_tup p, fun β ρ H0 σ H F R hd h k => ?_⟩
  exact v β ρ H0 σ H _ _ hd h fun ds vs H1 H1' hf hl hd1 g1 r1 => ⟨line100 (by rw [r1.length, hl]; exact hz), new_tup hd1 r1 hf fun d w H2 H2' f2 hd2 g2 r2 => k d w H2 H2' f2 hd2 (g1.trans g2) r2⟩
theorem de_lst {U : TDA} (h : DA X es U) (hz : es.length ≤ 100000 := by decide) : DE X (.List es pos) (dLst U) := by
  obtain ⟨u, p, v⟩ := h
  refine ⟨_, pe_lst p, fun β ρ H0 σ H F R hd h k => ?_⟩
  exact v β ρ H0 σ H _ _ hd h fun ds vs H1 H1' hf hl hd1 g1 r1 => ⟨line100 (by rw [r1.length, hl]; exact hz), new_lst hd1 r1 hf fun d w H2 H2' f2 hd2 g2 r2 => k d w H2 H2' f2 hd2 (g1.trans g2) r2⟩

/-! ### calls of defs -/
/-- a contract: of the arguments, what holds of the answer -/
abbrev Ct := List D → (D → Prop) → Prop
def spC (K : PySem.W.Frag) (C : Ct) : Sp := fun vs H Q _ => ∃ H0 ds F, Ex H0 H ∧ RepAs K H0 H vs ds ∧ C ds F ∧ ∀ d v H0' H', F d → Ex H0' H' → Gr K H0 H H0' H' → Rep K H0' v d → Q v H'
@[reducible, simp] def dCall (C : Ct) (U : TDA) : TD := fun ρ F => U ρ fun ds => C ds F
theorem de_call {C : Ct} {U : TDA} {k : Nat} {f : Addr} {fd : FuncData} {ps : List Str} {x : Str} {p : Pos} (G : FnOk X.prog X.w X.K X.mg X.base CX0 k f fd ps (spC X.K C)) (hr : Room k X.A) (hm : X.mg x = some (.ref f)) (hk : PySem.W.keepIn X.K (.ref f) = true) (hb : Binds X.K fd ps [])
    (ha : DF X (a :: es) U) (hg : Gl X x := by rfl) (hdb : (x == ("__debug__" : Str)) = false := by decide) (he : starEach (a :: es) X.env = (false, eval a X.env) :: starEach es X.env := by rfl) (hpl : (backTo pos (starEach es X.env)).any (·.1) = false := by rfl) :
    DE X (.Call (.Name x p) (a :: es) [] pos) (dCall C U) := by
  obtain ⟨u, pu, v⟩ := ha
  refine ⟨_, pe_call (E := E0) G hr hg hm hk hb .nil pass0 pu hdb he hpl, fun β ρ H0 σ H F R hd h k => ?_⟩
  refine v β ρ H0 σ H _ _ hd h fun ds vs H1 H1' hf hd1 g1 r1 => ?_
  rw [List.append_nil]
  exact ⟨H1, ds, F, hd1.x, r1, hf, fun d w H2 H2' f2 x2 g2 r2 => k d w H2 H2' f2 (hd1.up x2 g2) (g1.trans g2) r2⟩
/-! ### calls of built-ins -/
@[reducible, simp] def dCB (f : List D → (D → Prop) → Prop) (U : TDA) : TD := fun ρ F => U ρ fun ds => f ds F
theorem de_callB {U : TDA} {id : String} {x : Str} {p : Pos} {r : List V → Hp → VK → Prop} {f : List D → (D → Prop) → Prop} (hc : CallR X (.builtin id) r) (l : LC X.K r f) (hm : X.mg x = none) (hv : bootBuiltins x = some (.builtin id)) (ha : DA X (a :: es) U) (hg : Gl X x := by rfl)
    (hn : x ≠ "__name__" := by decide) (hdb : (x == ("__debug__" : Str)) = false := by decide) (he : starEach (a :: es) X.env = (false, eval a X.env) :: starEach es X.env := by rfl) (hpl : (backTo pos (starEach es X.env)).any (·.1) = false := by rfl) :
    DE X (.Call (.Name x p) (a :: es) [] pos) (dCB f U) := by
  obtain ⟨u, pu, v⟩ := ha
  refine ⟨_, pe_callB hc hg hm hv pu hn hdb he hpl, fun β ρ H0 σ H F R hd h k => ?_⟩
  exact v β ρ H0 σ H _ _ hd h fun ds vs H1 H1' hf _ hd1 g1 r1 => l β ρ H1 σ H1' vs ds F R hd1 r1 hf fun d w H2 H2' f2 hd2 g2 r2 => k d w H2 H2' f2 hd2 (g1.trans g2) r2
theorem de_callTy {U : TDA} {id : String} {x : Str} {p : Pos} {r : List V → Hp → VK → Prop} {f : List D → (D → Prop) → Prop} (hc : CallR X (.type id) r) (l : LC X.K r f) (hm : X.mg x = none) (hv : bootBuiltins x = some (.type id)) (ha : DA X (a :: es) U) (hg : Gl X x := by rfl)
    (hn : x ≠ "__name__" := by decide) (hdb : (x == ("__debug__" : Str)) = false := by decide) (he : starEach (a :: es) X.env = (false, eval a X.env) :: starEach es X.env := by rfl) (hpl : (backTo pos (starEach es X.env)).any (·.1) = false := by rfl) :
    DE X (.Call (.Name x p) (a :: es) [] pos) (dCB f U) := by
  obtain ⟨u, pu, v⟩ := ha
  refine ⟨_, pe_callTy hc hg hm hv pu hn hdb he hpl, fun β ρ H0 σ H F R hd h k => ?_⟩
  exact v β ρ H0 σ H _ _ hd h fun ds vs H1 H1' hf _ hd1 g1 r1 => l β ρ H1 σ H1' vs ds F R hd1 r1 hf fun d w H2 H2' f2 hd2 g2 r2 => k d w H2 H2' f2 hd2 (g1.trans g2) r2
/-! ### subscripts -/
theorem de_ix {r : R2} {f : F2} (hr : IxR X r) (l : LR2 X.K r f) (ha : DE X a Ta) (hb : DE X b Tb) (hs : PlainIx b := by exact fun _ _ => rfl) : DE X (.Subscript a b pos) (dOp f Ta Tb) := by
  obtain ⟨ta, pa, va⟩ := ha
  obtain ⟨tb, pb, vb⟩ := hb
  exact ⟨_, pe_ix hr pa pb hs, dv_op l va vb⟩
end
end DL

set_option Elab.async false
set_option linter.all false
set_option maxRecDepth 100000
set_option maxHeartbeats 4000000
namespace DL
open PySem PySem.Spec PyProof.Rows L2

/-! ### ints -/
@[reducible, simp] def fI0 (h : Int → Int → Int) : F2 := fun x y F => ∃ i j, x = .int i ∧ y = .int j ∧ F (.int (h i j))
@[reducible, simp] def fI (C : Int → Int → Prop) (h : Int → Int → Int) : F2 := fun x y F => ∃ i j, x = .int i ∧ y = .int j ∧ C i j ∧ F (.int (h i j))
@[reducible, simp] def fB0 (h : Int → Int → Bool) : F2 := fun x y F => ∃ i j, x = .int i ∧ y = .int j ∧ F (.bl (h i j))
section
variable {K : PySem.W.Frag}
theorem l_I0 {h : Int → Int → Int} : LR2 K (rI0 fun i j => .int (h i j)) (fI0 h) := fun β ρ H0 σ H x y dx dy F R hd rx ry ⟨i, j, ex, ey, f⟩ k => by
  subst ex ey
  cases rx
  cases ry
  exact ⟨i, j, rfl, rfl, k _ _ H0 H f hd (Gr.refl _ _ _) (.int _)⟩
theorem l_I {C : Int → Int → Prop} {h : Int → Int → Int} : LR2 K (rI C fun i j => .int (h i j)) (fI C h) := fun β ρ H0 σ H x y dx dy F R hd rx ry ⟨i, j, ex, ey, c, f⟩ k => by
  subst ex ey
  cases rx
  cases ry
  exact ⟨i, j, rfl, rfl, c, k _ _ H0 H f hd (Gr.refl _ _ _) (.int _)⟩
theorem l_B0 {h : Int → Int → Bool} : LR2 K (rI0 fun i j => .bl (h i j)) (fB0 h) := fun β ρ H0 σ H x y dx dy F R hd rx ry ⟨i, j, ex, ey, f⟩ k => by
  subst ex ey
  cases rx
  cases ry
  exact ⟨i, j, rfl, rfl, k _ _ H0 H f hd (Gr.refl _ _ _) (.bl _)⟩
@[reducible, simp] def fNeg : D → (D → Prop) → Prop := fun x F => ∃ i, x = .int i ∧ F (.int (-i))
theorem l_neg : LR1 K (rU fun i => .int (-i)) fNeg := fun β ρ H0 σ H x dx F R hd rx ⟨i, ex, f⟩ k => by
  subst ex
  cases rx
  exact ⟨i, rfl, k _ _ H0 H f hd (Gr.refl _ _ _) (.int _)⟩
/-! ### scalars by == -/
@[simp] def eqS : D → D → Option Bool
  | .int i, .int j => some (decide (i = j))
  | .str i, .str j => some (decide (i = j))
  | .bl i, .bl j => some (decide (i = j))
  | _, _ => none
@[reducible, simp] def fEq : F2 := fun x y F => ∃ b, eqS x y = some b ∧ F (.bl b)
@[reducible, simp] def fNe : F2 := fun x y F => ∃ b, eqS x y = some b ∧ F (.bl (!b))
theorem eqS_ok {H0 : Hp} {x y : V} {dx dy : D} {b : Bool} (rx : Rep K H0 x dx) (ry : Rep K H0 y dy) (e : eqS dx dy = some b) : scal x y = true ∧ decide (x = y) = b := by
  cases rx <;> cases ry <;> simp only [eqS] at e <;> first | (cases e; done) | skip
  all_goals
    injection e with e
    subst e
    refine ⟨rfl, ?_⟩
    apply Bool.eq_iff_iff.mpr
    simp
theorem l_eq : LR2 K rEq fEq := fun β ρ H0 σ H x y dx dy F R hd rx ry ⟨b, e, f⟩ k => by
  obtain ⟨h1, h2⟩ := eqS_ok rx ry e
  exact ⟨h1, by rw [h2]; exact k _ _ H0 H f hd (Gr.refl _ _ _) (.bl _)⟩
theorem l_ne : LR2 K rNe fNe := fun β ρ H0 σ H x y dx dy F R hd rx ry ⟨b, e, f⟩ k => by
  obtain ⟨h1, h2⟩ := eqS_ok rx ry e
  exact ⟨h1, by rw [h2]; exact k _ _ H0 H f hd (Gr.refl _ _ _) (.bl _)⟩
/-! ### data by == -/
mutual
def pyD : D → PyData
  | .non => .none
  | .bl b => .bool b
  | .int i => .int i
  | .str x => .str x
  | .tup ds => .tuple (pyDs ds)
  | .lst ds => .list (pyDs ds)
  | .ord _ => .none
  | .feed => .none
def pyDs : List D → List PyData
  | [] => []
  | d :: ds => pyD d :: pyDs ds
end
mutual
/-- data that == may look into: no order, no feed; texts that fit; not too deep -/
def plainD : Nat → D → Bool
  | _, .non => true
  | _, .bl _ => true
  | _, .int _ => true
  | _, .str x => PyData.strOk x
  | 0, .tup _ => false
  | 0, .lst _ => false
  | n + 1, .tup ds => plainDs n ds
  | n + 1, .lst ds => plainDs n ds
  | _, .ord _ => false
  | _, .feed => false
def plainDs : Nat → List D → Bool
  | _, [] => true
  | n, d :: ds => plainD n d && plainDs n ds
end
mutual
theorem plain_shape : ∀ (n : Nat) (d : D), plainD n d = true → PyData.canLay0 (pyD d) = true ∧ (pyD d).depth ≤ n
  | _, .non, _ => ⟨by simp [pyD, PyData.canLay0], by simp [pyD, PyData.depth]⟩
  | _, .bl _, _ => ⟨by simp [pyD, PyData.canLay0], by simp [pyD, PyData.depth]⟩
  | _, .int _, _ => ⟨by simp [pyD, PyData.canLay0], by simp [pyD, PyData.depth]⟩
  | _, .str x, h => ⟨by simpa [pyD, PyData.canLay0, plainD] using h, by simp [pyD, PyData.depth]⟩
  | 0, .tup _, h => by simp [plainD] at h
  | 0, .lst _, h => by simp [plainD] at h
  | n + 1, .tup ds, h => by
    have q := plains_shape n ds (by simpa [plainD] using h)
    exact ⟨by simpa [pyD, PyData.canLay0] using q.1, by simp only [pyD, PyData.depth]; have := q.2; omega⟩
  | n + 1, .lst ds, h => by
    have q := plains_shape n ds (by simpa [plainD] using h)
    exact ⟨by simpa [pyD, PyData.canLay0] using q.1, by simp only [pyD, PyData.depth]; have := q.2; omega⟩
  | _, .ord _, h => by simp [plainD] at h
  | _, .feed, h => by simp [plainD] at h
theorem plains_shape : ∀ (n : Nat) (ds : List D), plainDs n ds = true → PyData.canLayAll0 (pyDs ds) = true ∧ PyData.depthAll (pyDs ds) ≤ n
  | _, [], _ => ⟨by simp [pyDs, PyData.canLayAll0], by simp [pyDs, PyData.depthAll]⟩
  | n, d :: ds, h => by
    have h' : plainD n d = true ∧ plainDs n ds = true := by simpa [plainDs] using h
    have q1 := plain_shape n d h'.1
    have q2 := plains_shape n ds h'.2
    refine ⟨by simp only [pyDs, PyData.canLayAll0, q1.1, q2.1, Bool.and_self], ?_⟩
    simp only [pyDs, PyData.depthAll]
    have := q1.2
    have := q2.2
    omega
end
mutual
theorem plain_dp {H0 H : Hp} (x : Ex H0 H) : ∀ (n : Nat) (d : D) (v : V), plainD n d = true → Rep K H0 v d → Dp K H v (pyD d)
  | _, .non, _, _, r => by cases r; simp only [pyD]; exact .non
  | _, .bl b, _, _, r => by cases r; simp only [pyD]; exact .bl b
  | _, .int i, _, _, r => by cases r; simp only [pyD]; exact .int i
  | _, .str s, _, _, r => by cases r; simp only [pyD]; exact .str s
  | 0, .tup _, _, h, _ => by simp [plainD] at h
  | 0, .lst _, _, h, _ => by simp [plainD] at h
  | n + 1, .tup ds, _, h, r => by
    cases r with
    | tup h1 h2 =>
      simp only [pyD]
      exact .tup (x.sqT h1) (plains_dp x n ds _ (by simpa [plainD] using h) h2)
  | n + 1, .lst ds, _, h, r => by
    cases r with
    | lst h1 h2 =>
      simp only [pyD]
      exact .lst (SqL.of (x _ _ h1)) (plains_dp x n ds _ (by simpa [plainD] using h) h2)
  | _, .ord _, _, h, _ => by simp [plainD] at h
  | _, .feed, _, h, _ => by simp [plainD] at h
theorem plains_dp {H0 H : Hp} (x : Ex H0 H) : ∀ (n : Nat) (ds : List D) (vs : List V), plainDs n ds = true → Reps K H0 vs ds → DpAll K H vs (pyDs ds)
  | _, [], _, _, r => by cases r; simp only [pyDs]; exact .nil
  | n, d :: ds, _, h, r => by
    have h' : plainD n d = true ∧ plainDs n ds = true := by simpa [plainDs] using h
    cases r with
    | cons h1 h2 =>
      simp only [pyDs]
      exact .cons (plain_dp x n d _ h'.1 h1) (plains_dp x n ds _ h'.2 h2)
end
theorem plain_shaped {d : D} (h : plainD 64 d = true) : SeqAt.shaped (pyD d) = true := by
  obtain ⟨h1, h2⟩ := plain_shape 64 d h
  show (PyData.canLay0 (pyD d) && decide ((pyD d).depth ≤ 64)) = true
  rw [h1, decide_eq_true h2]
  rfl
@[reducible, simp] def fEqD : F2 := fun x y F => plainD 64 x = true ∧ plainD 64 y = true ∧ F (.bl (PyData.eqv (pyD x) (pyD y)))
@[reducible, simp] def fNeD : F2 := fun x y F => plainD 64 x = true ∧ plainD 64 y = true ∧ F (.bl (!PyData.eqv (pyD x) (pyD y)))
theorem l_eqD : LR2 K (rEqD K) fEqD := fun β ρ H0 σ H x y dx dy F R hd rx ry ⟨h1, h2, f⟩ k =>
  ⟨_, _, plain_dp hd.x 64 dx x h1 rx, plain_dp hd.x 64 dy y h2 ry, plain_shaped h1, plain_shaped h2, k _ _ H0 H f hd (Gr.refl _ _ _) (.bl _)⟩
theorem l_neD : LR2 K (rNeD K) fNeD := fun β ρ H0 σ H x y dx dy F R hd rx ry ⟨h1, h2, f⟩ k =>
  ⟨_, _, plain_dp hd.x 64 dx x h1 rx, plain_dp hd.x 64 dy y h2 ry, plain_shaped h1, plain_shaped h2, k _ _ H0 H f hd (Gr.refl _ _ _) (.bl _)⟩
/-! ### is -/
def isNon : D → Bool
  | .non => true
  | _ => false
theorem isNon_ok {H0 : Hp} {x : V} {d : D} (r : Rep K H0 x d) : decide (x = .non) = isNon d := by cases r <;> rfl
@[reducible, simp] def fIsN : F2 := fun x y F => y = .non ∧ F (.bl (isNon x))
@[reducible, simp] def fNotN : F2 := fun x y F => y = .non ∧ F (.bl (!isNon x))
theorem l_isN : LR2 K (fun x y H Q => y = .non ∧ Q (.bl (decide (x = .non))) H) fIsN := fun β ρ H0 σ H x y dx dy F R hd rx ry ⟨e, f⟩ k => by
  subst e
  cases ry
  exact ⟨rfl, by rw [isNon_ok rx]; exact k _ _ H0 H f hd (Gr.refl _ _ _) (.bl _)⟩
theorem l_notN : LR2 K (fun x y H Q => y = .non ∧ Q (.bl (!decide (x = .non))) H) fNotN := fun β ρ H0 σ H x y dx dy F R hd rx ry ⟨e, f⟩ k => by
  subst e
  cases ry
  exact ⟨rfl, by rw [isNon_ok rx]; exact k _ _ H0 H f hd (Gr.refl _ _ _) (.bl _)⟩
@[reducible, simp] def fNotB : F2 := fun x y F => ∃ a b, x = .bl a ∧ y = .bl b ∧ F (.bl (!decide (a = b)))
theorem l_notB : LR2 K rNotB fNotB := fun β ρ H0 σ H x y dx dy F R hd rx ry ⟨a, b, e1, e2, f⟩ k => by
  subst e1 e2
  cases rx
  cases ry
  exact ⟨a, b, rfl, rfl, k _ _ H0 H f hd (Gr.refl _ _ _) (.bl _)⟩
/-! ### tuples and lists: +, *, [i], [i:j] -/
@[reducible, simp] def fCatT : F2 := fun x y F => ∃ xs ys, x = .tup xs ∧ y = .tup ys ∧ xs.length + ys.length ≤ 100000 ∧ F (.tup (xs ++ ys))
theorem l_catT : LR2 K (rCatA K) fCatT := fun β ρ H0 σ H x y dx dy F R hd rx ry ⟨xs, ys, e1, e2, hz, f⟩ k => by
  subst e1 e2
  cases rx with
  | @tup a vs _ h1 h2 =>
    cases ry with
    | @tup b ws _ h3 h4 =>
      refine ⟨a, b, vs, ws, rfl, rfl, hd.x.sqT h1, hd.x.sqT h3, line100 (by rw [h2.length, h4.length]; exact hz), fun e => ?_, fun _ e => ?_, fun _ _ => ?_⟩
      · subst e
        cases h2
        exact k _ _ H0 H f hd (Gr.refl _ _ _) (.tup h3 h4)
      · subst e
        cases h4
        rw [List.append_nil] at f
        exact k _ _ H0 H f hd (Gr.refl _ _ _) (.tup h1 h2)
      · exact new_tup hd (h2.append h4) f k
@[reducible, simp] def fCatL : F2 := fun x y F => ∃ xs ys, x = .lst xs ∧ y = .lst ys ∧ xs.length + ys.length ≤ 100000 ∧ F (.lst (xs ++ ys))
theorem l_catL : LR2 K rCat fCatL := fun β ρ H0 σ H x y dx dy F R hd rx ry ⟨xs, ys, e1, e2, hz, f⟩ k => by
  subst e1 e2
  cases rx with
  | @lst a vs _ h1 h2 =>
    cases ry with
    | @lst b ws _ h3 h4 =>
      exact ⟨a, b, vs, ws, rfl, rfl, hd.x _ _ h1, hd.x _ _ h3, line100 (by rw [h2.length, h4.length]; exact hz), new_lst hd (h2.append h4) f k⟩
@[reducible, simp] def fRepL : F2 := fun x y F => ∃ xs n, x = .lst xs ∧ y = .int n ∧ 0 ≤ n ∧ n ≤ 1000 ∧ xs.length ≤ 100 ∧ F (.lst (List.replicate n.toNat xs).flatten)
theorem l_repL : LR2 K rRep fRepL := fun β ρ H0 σ H x y dx dy F R hd rx ry ⟨xs, n, e1, e2, h0, h1, hz, f⟩ k => by
  subst e1 e2
  cases rx with
  | @lst a vs _ h2 h3 =>
    cases ry
    refine ⟨a, n, vs, rfl, rfl, hd.x _ _ h2, by omega, by omega, line100 ?_, new_lst hd (h3.rep _) f k⟩
    rw [h3.length]
    exact Nat.le_trans (Nat.mul_le_mul hz (show n.toNat ≤ 1000 by omega)) (by decide)
def ixD : D → D → Option D
  | .tup ds, .int i => atI ds i
  | .lst ds, .int i => atI ds i
  | _, _ => none
@[reducible, simp] def fIx : F2 := fun x y F => ∃ d, ixD x y = some d ∧ F d
theorem atI_rep {H0 : Hp} {vs : List V} {ds : List D} {i : Int} {d : D} (r : Reps K H0 vs ds) (h : atI ds i = some d) : ∃ v, atI vs i = some v ∧ Rep K H0 v d := by
  unfold atI at h ⊢
  rw [r.length]
  cases e : ixN ds.length i with
  | none =>
    rw [e] at h
    cases h
  | some j =>
    rw [e] at h
    exact r.get h
@[reducible, simp] def rIxA (K : PySem.W.Frag) : R2 := fun x y H Q => rIxL K x y H Q ∨ rIxT K x y H Q
theorem ix_any {X : Cx} : IxR X (rIxA X.K) := ix_list.or ix_tup
theorem l_ix : LR2 K (rIxA K) fIx := fun β ρ H0 σ H x y dx dy F R hd rx ry ⟨d, e, f⟩ k => by
  cases ry with
  | int i =>
    cases rx with
    | @tup a vs ds h1 h2 =>
      obtain ⟨v, e', r⟩ := atI_rep h2 e
      exact .inr ⟨a, vs, i, v, rfl, rfl, hd.x.sqT h1, e', k d v H0 H f hd (Gr.refl _ _ _) r⟩
    | @lst a vs ds h1 h2 =>
      obtain ⟨v, e', r⟩ := atI_rep h2 e
      exact .inl ⟨a, vs, i, v, rfl, rfl, SqL.of (hd.x _ _ h1), e', k d v H0 H f hd (Gr.refl _ _ _) r⟩
    | _ => cases e
  | _ => cases rx <;> cases e
def cutD (xs : List D) (lo hi : Option Int) : List D := (xs.drop (HT.sIx xs.length 0 lo)).take (HT.sIx xs.length xs.length hi - HT.sIx xs.length 0 lo)
theorem Reps.cut {H0 : Hp} {vs : List V} {ds : List D} (r : Reps K H0 vs ds) (lo hi : Option Int) : Reps K H0 (cutV vs lo hi) (cutD ds lo hi) := by
  unfold cutV cutD
  rw [r.length]
  exact (r.drop _).take _
end

/-! ### slices -/
abbrev TDO := DEnv → (Option Int → Prop) → Prop
def DOV (K : PySem.W.Frag) (t : TO) (T : TDO) : Prop := ∀ (β : Base) (ρ : DEnv) (H0 : Hp) (σ : L2.St) (H : Hp) (F : Option Int → Prop) (R : Option Int → Hp → Prop), Hd K β ρ H0 σ H → T ρ F →
  (∀ o H0' H', F o → Hd K β ρ H0' σ H' → Gr K H0 H H0' H' → R o H') → t σ H R
structure DO (X : Cx) (e : Option Expr) (T : TDO) : Prop where
  ex : ∃ t, PO X e t ∧ DOV X.K t T
@[reducible, simp] def dNoPart : TDO := fun _ F => F none
@[reducible, simp] def dPart (T : TD) : TDO := fun ρ F => T ρ fun x => ∃ i, x = .int i ∧ F (some i)
section
variable {X : Cx} {a b e : Expr} {lo hi : Option Expr} {Ta Tb Te : TD} {pos p2 : Pos} {Tl Th : TDO}
theorem do_none : DO X none dNoPart := ⟨_, po_none, fun β ρ H0 σ H F R hd f k => k none H0 H f hd (Gr.refl _ _ _)⟩
theorem do_some (h : DE X e Te) : DO X (some e) (dPart Te) := by
  obtain ⟨t, p, v⟩ := h
  refine ⟨_, po_some p, fun β ρ H0 σ H F R hd h k => ?_⟩
  refine v β ρ H0 σ H _ _ hd h fun x w H1 H1' hx hd1 g1 r1 => ?_
  obtain ⟨i, rfl, hf⟩ := hx
  cases r1
  exact ⟨i, rfl, k _ H1 H1' hf hd1 g1⟩
@[reducible, simp] def dSlT (Te : TD) (Tl Th : TDO) : TD := fun ρ F => Te ρ fun x => Tl ρ fun l => Th ρ fun h => ∃ ds, x = .tup ds ∧ F (.tup (cutD ds l h))
@[reducible, simp] def dSlL (Te : TD) (Tl Th : TDO) : TD := fun ρ F => Te ρ fun x => Tl ρ fun l => Th ρ fun h => ∃ ds, x = .lst ds ∧ F (.lst (cutD ds l h))
theorem cut_all {α : Type} (xs : List α) {i j : Nat} (h : i = 0 ∧ j = xs.length) : (xs.drop i).take (j - i) = xs := by
  obtain ⟨rfl, rfl⟩ := h
  simp
theorem de_slT (he : DE X e Te) (hl : DO X lo Tl) (hu : DO X hi Th) : DE X (.Subscript e (.Slice lo hi none p2) pos) (dSlT Te Tl Th) := by
  obtain ⟨t, p, v⟩ := he
  obtain ⟨tl, pl, vl⟩ := hl
  obtain ⟨tu, pu, vu⟩ := hu
  refine ⟨_, pe_slice sl_tupA p pl pu, fun β ρ H0 σ H F R hd h k => ?_⟩
  refine v β ρ H0 σ H _ _ hd h fun x w H1 H1' hx hd1 g1 r1 => ?_
  refine vl β ρ H1 σ H1' _ _ hd1 hx fun l H2 H2' hl hd2 g2 => ?_
  refine vu β ρ H2 σ H2' _ _ hd2 hl fun u H3 H3' hu hd3 g3 => ?_
  obtain ⟨ds, rfl, f⟩ := hu
  cases r1 with
  | @tup c vs _ h1 h2 =>
    have g13 := g2.trans g3
    refine ⟨c, vs, rfl, hd3.x.sqT (g13.e0.sqT h1), fun q => ?_, fun _ => ?_⟩
    · have e1 : cutD ds l u = ds := by
        rw [h2.length] at q
        exact cut_all ds q
      rw [e1] at f
      exact k _ _ H3 H3' f hd3 (g1.trans g13) (.tup (g13.e0.sqT h1) (h2.up g13.e0))
    · exact new_tup hd3 ((h2.up g13.e0).cut l u) f fun d w H4 H4' f4 hd4 g4 r4 => k d w H4 H4' f4 hd4 ((g1.trans g13).trans g4) r4
theorem de_slL (he : DE X e Te) (hl : DO X lo Tl) (hu : DO X hi Th) : DE X (.Subscript e (.Slice lo hi none p2) pos) (dSlL Te Tl Th) := by
  obtain ⟨t, p, v⟩ := he
  obtain ⟨tl, pl, vl⟩ := hl
  obtain ⟨tu, pu, vu⟩ := hu
  refine ⟨_, pe_slice sl_list p pl pu, fun β ρ H0 σ H F R hd h k => ?_⟩
  refine v β ρ H0 σ H _ _ hd h fun x w H1 H1' hx hd1 g1 r1 => ?_
  refine vl β ρ H1 σ H1' _ _ hd1 hx fun l H2 H2' hl hd2 g2 => ?_
  refine vu β ρ H2 σ H2' _ _ hd2 hl fun u H3 H3' hu hd3 g3 => ?_
  obtain ⟨ds, rfl, f⟩ := hu
  cases r1 with
  | @lst c vs _ h1 h2 =>
    have g13 := g2.trans g3
    exact ⟨c, vs, rfl, SqL.of (hd3.x _ _ (g13.e0 _ _ h1)), new_lst hd3 ((h2.up g13.e0).cut l u) f fun d w H4 H4' f4 hd4 g4 r4 => k d w H4 H4' f4 hd4 ((g1.trans g13).trans g4) r4⟩
end

/-! ### built-ins -/
@[simp] def itemsD : D → Option (List D)
  | .tup ds => some ds
  | .lst ds => some ds
  | _ => none
section
variable {K : PySem.W.Frag}
@[reducible, simp] def fLen : List D → (D → Prop) → Prop := fun xs F => ∃ x es, xs = [x] ∧ itemsD x = some es ∧ F (.int es.length)
theorem l_len : LC K (fun xs H Q => ∃ p ys, xs = [.ref p] ∧ (SqL K H p ys ∨ SqT K H p ys) ∧ Q (.int ys.length) H) fLen := fun β ρ H0 σ H xs ds F R hd r ⟨x, es, e, ei, f⟩ k => by
  subst e
  cases r with
  | cons rx rt =>
    cases rt
    cases rx with
    | @tup a vs ds' h1 h2 =>
      cases ei
      refine ⟨a, vs, rfl, .inr (hd.x.sqT h1), ?_⟩
      rw [h2.length]
      exact k _ _ H0 H f hd (Gr.refl _ _ _) (.int _)
    | @lst a vs ds' h1 h2 =>
      cases ei
      refine ⟨a, vs, rfl, .inl (SqL.of (hd.x _ _ h1)), ?_⟩
      rw [h2.length]
      exact k _ _ H0 H f hd (Gr.refl _ _ _) (.int _)
    | _ => cases ei
@[reducible, simp] def fAbs : List D → (D → Prop) → Prop := fun xs F => ∃ i, xs = [.int i] ∧ F (.int (if i < 0 then -i else i))
theorem l_abs : LC K (fun xs H Q => ∃ i, xs = [.int i] ∧ Q (.int (if i < 0 then -i else i)) H) fAbs := fun β ρ H0 σ H xs ds F R hd r ⟨i, e, f⟩ k => by
  subst e
  cases r with
  | cons rx rt =>
    cases rt
    cases rx
    exact ⟨i, rfl, k _ _ H0 H f hd (Gr.refl _ _ _) (.int _)⟩
@[reducible, simp] def fMax2 : List D → (D → Prop) → Prop := fun xs F => ∃ i j, xs = [.int i, .int j] ∧ F (.int (if j > i then j else i))
@[reducible, simp] def fMin2 : List D → (D → Prop) → Prop := fun xs F => ∃ i j, xs = [.int i, .int j] ∧ F (.int (if j < i then j else i))
theorem l_max2 : LC K (fun xs H Q => ∃ i j, xs = [.int i, .int j] ∧ Q (.int (if j > i then j else i)) H) fMax2 := fun β ρ H0 σ H xs ds F R hd r ⟨i, j, e, f⟩ k => by
  subst e
  cases r with
  | cons rx rt =>
    cases rt with
    | cons ry rt =>
      cases rt
      cases rx
      cases ry
      exact ⟨i, j, rfl, k _ _ H0 H f hd (Gr.refl _ _ _) (.int _)⟩
theorem l_min2 : LC K (fun xs H Q => ∃ i j, xs = [.int i, .int j] ∧ Q (.int (if j < i then j else i)) H) fMin2 := fun β ρ H0 σ H xs ds F R hd r ⟨i, j, e, f⟩ k => by
  subst e
  cases r with
  | cons rx rt =>
    cases rt with
    | cons ry rt =>
      cases rt
      cases rx
      cases ry
      exact ⟨i, j, rfl, k _ _ H0 H f hd (Gr.refl _ _ _) (.int _)⟩
/-- int(a truth) -/
@[reducible, simp] def fIntB : List D → (D → Prop) → Prop := fun xs F => ∃ b, xs = [.bl b] ∧ F (.int (if b then 1 else 0))
theorem l_intB : LC K (fun xs H Q => (∃ i, xs = [.int i] ∧ Q (.int i) H) ∨ ∃ k, xs = [.bl k] ∧ Q (.int (if k then 1 else 0)) H) fIntB := fun β ρ H0 σ H xs ds F R hd r ⟨b, e, f⟩ k => by
  subst e
  cases r with
  | cons rx rt =>
    cases rt
    cases rx
    exact .inr ⟨b, rfl, k _ _ H0 H f hd (Gr.refl _ _ _) (.int _)⟩
/-- tuple(a list) -/
@[reducible, simp] def fTupOf : List D → (D → Prop) → Prop := fun xs F => ∃ es, xs = [.lst es] ∧ F (.tup es)
theorem l_tupOf : LC K (fun xs H Q => ∃ p ys, xs = [.ref p] ∧ ((SqL K H p ys ∧ ∀ l, H l = none → Q (.ref l) (upd H l (.tup ys))) ∨ (SqT K H p ys ∧ Q (.ref p) H))) fTupOf := fun β ρ H0 σ H xs ds F R hd r ⟨es, e, f⟩ k => by
  subst e
  cases r with
  | cons rx rt =>
    cases rt
    cases rx with
    | @lst a vs _ h1 h2 => exact ⟨a, vs, rfl, .inl ⟨SqL.of (hd.x _ _ h1), new_tup hd h2 f k⟩⟩
theorem reps_ints {H0 : Hp} : ∀ {vs : List V} {ns : List Int}, Reps K H0 vs (ns.map D.int) → vs = ns.map V.int
  | _, [], .nil => rfl
  | _, n :: ns, .cons r t => by
    cases r
    rw [reps_ints t]
    rfl
theorem reps_bls {H0 : Hp} : ∀ {vs : List V} {ns : List Bool}, Reps K H0 vs (ns.map D.bl) → vs = ns.map V.bl
  | _, [], .nil => rfl
  | _, n :: ns, .cons r t => by
    cases r
    rw [reps_bls t]
    rfl
@[reducible, simp] def fMin : List D → (D → Prop) → Prop := fun xs F => ∃ ns : List Int, xs = [.lst (ns.map D.int)] ∧ 0 < ns.length ∧ ∀ m, m ∈ ns → (∀ y, y ∈ ns → m ≤ y) → F (.int m)
theorem l_min : LC K (rMin K) fMin := fun β ρ H0 σ H xs ds F R hd r ⟨ns, e, hn, f⟩ k => by
  subst e
  cases r with
  | cons rx rt =>
    cases rt
    cases rx with
    | @lst a vs _ h1 h2 =>
      have e := reps_ints h2
      subst e
      exact ⟨a, ns, rfl, SqL.of (hd.x _ _ h1), hn, fun m hm hl => k _ _ H0 H (f m hm hl) hd (Gr.refl _ _ _) (.int _)⟩
@[reducible, simp] def fAll : List D → (D → Prop) → Prop := fun xs F => ∃ bs : List Bool, xs = [.lst (bs.map D.bl)] ∧ F (.bl (bs.all id))
@[reducible, simp] def fAny : List D → (D → Prop) → Prop := fun xs F => ∃ bs : List Bool, xs = [.lst (bs.map D.bl)] ∧ F (.bl (bs.any id))
theorem l_all : LC K (rAll K) fAll := fun β ρ H0 σ H xs ds F R hd r ⟨ns, e, f⟩ k => by
  subst e
  cases r with
  | cons rx rt =>
    cases rt
    cases rx with
    | @lst a vs _ h1 h2 =>
      have e := reps_bls h2
      subst e
      exact ⟨a, ns, rfl, SqL.of (hd.x _ _ h1), k _ _ H0 H f hd (Gr.refl _ _ _) (.bl _)⟩
theorem l_any : LC K (rAny K) fAny := fun β ρ H0 σ H xs ds F R hd r ⟨ns, e, f⟩ k => by
  subst e
  cases r with
  | cons rx rt =>
    cases rt
    cases rx with
    | @lst a vs _ h1 h2 =>
      have e := reps_bls h2
      subst e
      exact ⟨a, ns, rfl, SqL.of (hd.x _ _ h1), k _ _ H0 H f hd (Gr.refl _ _ _) (.bl _)⟩
end
/-! ### isinstance -/
@[simp] def tyD : D → Option String
  | .non => some "NoneType"
  | .bl _ => some "bool"
  | .int _ => some "int"
  | .str _ => some "str"
  | .tup _ => some "tuple"
  | .lst _ => some "list"
  | _ => none
theorem ty_rep {K : PySem.W.Frag} {H0 H : Hp} {v : V} {d : D} {t : String} (x : Ex H0 H) (r : Rep K H0 v d) (e : tyD d = some t) : TyX K H v (.type t) := by
  cases r with
  | ord _ => cases e
  | non => cases e; exact .base .non
  | bl _ => cases e; exact .base (.bl _)
  | int _ => cases e; exact .base (.int _)
  | str _ => cases e; exact .base (.str _)
  | @tup a xs ds h1 h2 =>
    cases e
    rcases h1 with (h1 | ⟨o, h1⟩) | ⟨o, its, n, h1, h3, _⟩
    · exact .base (.tup (x _ _ h1))
    · exact .fTuple (x _ _ h1)
    · exact .kTuple h1 h3
  | @lst a xs ds h1 h2 =>
    cases e
    exact .base (.lst (x _ _ h1))
section
variable {X : Cx} {a b e : Expr} {Ta Tb Te : TD} {pos : Pos}
@[reducible, simp] def dIsi (T : String) (Ta : TD) : TD := fun ρ F => Ta ρ fun x => ∃ t b, tyD x = some t ∧ kitB t T = some b ∧ F (.bl b)
theorem de_isi {T : String} {y : Str} {p p2 : Pos} (hm : X.mg "isinstance" = none) (hm2 : X.mg y = none) (hv2 : bootBuiltins y = some (.type T)) (ha : DE X a Ta) (hg : Gl X "isinstance" := by rfl) (hg2 : Gl X y := by rfl) (hn2 : y ≠ "__name__" := by decide) (hd2 : (y == ("__debug__" : Str)) = false := by decide)
    (he : starEach [a, .Name y p2] X.env = (false, eval a X.env) :: starEach [.Name y p2] X.env := by rfl) (he2 : starEach [.Name y p2] X.env = (false, eval (.Name y p2) X.env) :: starEach [] X.env := by rfl) (hpl : (backTo pos (starEach [.Name y p2] X.env)).any (·.1) = false := by rfl)
    (hT : ClsV (.ty T) (.type T) := by exact .ty) :
    DE X (.Call (.Name "isinstance" p) [a, .Name y p2] [] pos) (dIsi T Ta) := by
  obtain ⟨ta, pa, va⟩ := ha
  refine ⟨_, pe_callB call_isi hg hm (by decide +kernel) (pa_cons pa (pa_cons (pe_bltn (v := .ty T) hg2 hm2 hv2 rfl hn2 hd2) pa_nil he2) he) (by decide) (by decide) he hpl, fun β ρ H0 σ H F R hd h k => ?_⟩
  refine va β ρ H0 σ H _ _ hd h fun x w H1 H1' hx hd1 g1 r1 => ?_
  obtain ⟨t, b, et, eb, f⟩ := hx
  exact ⟨w, .ty T, .type t, .type T, b, rfl, hT, ty_rep hd1.x r1 et, kit_ty eb, k _ _ H1 H1' f hd1 g1 (.bl _)⟩
end
end DL

set_option Elab.async false
set_option linter.all false
set_option maxRecDepth 100000
set_option maxHeartbeats 4000000
namespace DL
open PySem PySem.Spec PyProof.Rows L2

/-! ### statements -/
structure DEnds where
  nx : DEnv → Prop
  rt : D → Prop
  bk : DEnv → Prop := fun _ => False
  ct : DEnv → Prop := fun _ => False
abbrev TDS := DEnds → DEnv → Prop
structure LE (K : PySem.W.Frag) (β : Base) (E : DEnds) (D' : Ends) : Prop where
  nx : ∀ ρ H0 σ H, Hd K β ρ H0 σ H → E.nx ρ → D'.nx σ H
  rt : ∀ d v H0 H, Ex H0 H → Gr K β.f β.b H0 H → Rep K H0 v d → E.rt d → D'.rt v H
  bk : ∀ ρ H0 σ H, Hd K β ρ H0 σ H → E.bk ρ → D'.bk σ H
  ct : ∀ ρ H0 σ H, Hd K β ρ H0 σ H → E.ct ρ → D'.ct σ H
def DSV (K : PySem.W.Frag) (t : TS) (T : TDS) : Prop := ∀ (β : Base) (ρ : DEnv) (H0 : Hp) (σ : L2.St) (H : Hp) (E : DEnds) (D' : Ends), Hd K β ρ H0 σ H → LE K β E D' → T E ρ → t D' σ H
structure DS (X : Cx) (st : Stmt) (T : TDS) : Prop where
  ex : ∃ t, PS X st t ∧ DSV X.K t T
structure DSs (X : Cx) (st : List Stmt) (T : TDS) : Prop where
  ex : ∃ t, PSs X st t ∧ DSV X.K t T
theorem Hd.rez {K : PySem.W.Frag} {β : Base} {z : Hp} {ρ : DEnv} {H0 H : Hp} {σ : L2.St} (h : Hd K β ρ H0 σ H) (e : Ex z H0) : Hd K { β with z := z } ρ H0 σ H :=
  ⟨h.x, h.g, e, h.len, h.val, h.own, h.feed, h.sep⟩
section
variable {X : Cx} {st : Stmt} {rest : List Stmt} {T U : TDS} {e : Expr} {Te : TD} {pos : Pos}
@[reducible, simp] def dNext : TDS := fun E ρ => E.nx ρ
@[reducible, simp] def dSeq (T U : TDS) : TDS := fun E ρ => T { E with nx := fun ρ' => U E ρ' } ρ
theorem dss_nil : DSs X [] dNext := ⟨_, pss_nil, fun β ρ H0 σ H E D' hd l h => l.nx _ _ _ _ hd h⟩
theorem dss_cons (h1 : DS X st T) (h2 : DSs X rest U) : DSs X (st :: rest) (dSeq T U) := by
  obtain ⟨t, p, v⟩ := h1
  obtain ⟨u, p2, v2⟩ := h2
  exact ⟨_, pss_cons p p2, fun β ρ H0 σ H E D' hd l h => v β ρ H0 σ H { E with nx := fun ρ' => U E ρ' } _ hd ⟨fun ρ' H0' σ' H' hd' q => v2 β ρ' H0' σ' H' E D' hd' l q, l.rt, l.bk, l.ct⟩ h⟩
theorem dss_one (h1 : DS X st T) : DSs X [st] T := by
  obtain ⟨t, p, v⟩ := h1
  exact ⟨_, pss_one p, v⟩
/-- a list of the def's own stands still from here -/
@[reducible, simp] def dFreeze (i : Nat) (T : TDS) : TDS := fun E ρ => ∃ ds, ρ[i]? = some (some (.own ds)) ∧ T E (ρ.set i (some (.val (.lst ds))))
theorem dss_freeze (i : Nat) (h : DSs X rest T) : DSs X rest (dFreeze i T) := by
  obtain ⟨t, p, v⟩ := h
  exact ⟨t, p, fun β ρ H0 σ H E D' hd l ⟨ds, hi, h⟩ => let ⟨H0', hd'⟩ := hd.freeze hi; v β _ H0' σ H E D' hd' l h⟩
/-- a slot is forgotten -/
@[reducible, simp] def dForget (i : Nat) (T : TDS) : TDS := fun E ρ => T E (ρ.set i none)
theorem dss_forget (i : Nat) (h : DSs X rest T) : DSs X rest (dForget i T) := by
  obtain ⟨t, p, v⟩ := h
  exact ⟨t, p, fun β ρ H0 σ H E D' hd l h => v β _ H0 σ H E D' (hd.forget i) l h⟩
theorem ds_never : DS X st fun _ _ => False := ⟨_, ps_never, fun _ _ _ _ _ _ _ _ _ h => h.elim⟩
theorem ds_pass : DS X (.Pass pos) dNext := ⟨_, ps_pass, fun β ρ H0 σ H E D' hd l h => l.nx _ _ _ _ hd h⟩
@[reducible, simp] def dRet (Te : TD) : TDS := fun E ρ => Te ρ E.rt
theorem ds_ret (he : DE X e Te) : DS X (.Return (some e) pos) (dRet Te) := by
  obtain ⟨t, p, v⟩ := he
  exact ⟨_, ps_ret p, fun β ρ H0 σ H E D' hd l h => v β ρ H0 σ H _ _ hd h fun d w H1 H1' f hd1 g1 r1 => l.rt d w H1 H1' hd1.x hd1.g r1 f⟩
@[reducible, simp] def dDrop (Te : TD) : TDS := fun E ρ => Te ρ fun _ => E.nx ρ
theorem ds_expr (he : DE X e Te) (hs : swapsWith e none pos.line X.env = pure false := by rfl) : DS X (.Expr e pos) (dDrop Te) := by
  obtain ⟨t, p, v⟩ := he
  exact ⟨_, ps_expr p hs, fun β ρ H0 σ H E D' hd l h => v β ρ H0 σ H _ _ hd h fun d w H1 H1' f hd1 g1 r1 => l.nx _ _ _ _ hd1 f⟩
@[reducible, simp] def dIfS (C : TDT) (T U : TDS) : TDS := fun E ρ => C ρ fun b => if b = true then T E ρ else U E ρ
theorem ds_if {c : Expr} {a b : List Stmt} {C : TDT} (hc : DT X c C) (ha : DSs X a T) (hb : DSs X b U) : DS X (.If c a b pos) (dIfS C T U) := by
  obtain ⟨tc, pc, vc⟩ := hc
  obtain ⟨t, p, v⟩ := ha
  obtain ⟨u, p2, v2⟩ := hb
  refine ⟨_, ps_if pc p p2, fun β ρ H0 σ H E D' hd l h => vc β ρ H0 σ H _ _ hd h fun b H1 H1' f hd1 g1 => ?_⟩
  cases b with
  | true => exact v β ρ H1 σ H1' E D' hd1 l f
  | false => exact v2 β ρ H1 σ H1' E D' hd1 l f
/-- name = value -/
@[reducible, simp] def dSet (i : Nat) (Te : TD) : TDS := fun E ρ => Te ρ fun d => E.nx (ρ.set i (some (.val d)))
theorem ds_set (i : Nat) {x : Str} {pos' : Pos} (hN : X.N.Nodup) (he : DE X e Te) (hi : X.N[i]? = some x := by rfl) (hx : Loc X.env.scope x := by first | exact .inl rfl | exact .inr rfl) (hs : swapsWith e (some (.Name x pos')) pos.line X.env = pure false := by rfl)
    (hf : X.fn x = true ∨ X.env.scope.names.lookup x = some .local := by first | exact .inl rfl | exact .inr rfl) : DS X (.Assign [.Name x pos'] e pos) (dSet i Te) := by
  obtain ⟨t, p, v⟩ := he
  exact ⟨_, ps_set hN hi hx p hs hf, fun β ρ H0 σ H E D' hd l h => v β ρ H0 σ H _ _ hd h fun d w H1 H1' f hd1 g1 r1 => l.nx _ _ _ _ (hd1.set r1) f⟩
/-- name = [e, ..], a list that will turn -/
@[reducible, simp] def dOwn (i : Nat) (U : TDA) : TDS := fun E ρ => U ρ fun ds => E.nx (ρ.set i (some (.own ds)))
theorem ds_own (i : Nat) {x : Str} {pos' lpos : Pos} {es : List Expr} {U : TDA} (hN : X.N.Nodup) (h : DA X es U) (hz : es.length ≤ 100000 := by decide) (hi : X.N[i]? = some x := by rfl) (hx : Loc X.env.scope x := by first | exact .inl rfl | exact .inr rfl)
    (hs : swapsWith (.List es lpos) (some (.Name x pos')) pos.line X.env = pure false := by rfl) (hf : X.fn x = true ∨ X.env.scope.names.lookup x = some .local := by first | exact .inl rfl | exact .inr rfl) : DS X (.Assign [.Name x pos'] (.List es lpos) pos) (dOwn i U) := by
  obtain ⟨t, p, v⟩ := h
  refine ⟨_, ps_set hN hi hx (pe_lst p) hs hf, fun β ρ H0 σ H E D' hd l h => ?_⟩
  refine v β ρ H0 σ H _ _ hd h fun ds vs H1 H1' f hl hd1 g1 r1 => ⟨line100 (by rw [r1.length, hl]; exact hz), fun q hq => ?_⟩
  have g : Gr X.K H1 H1' H1 (upd H1' q (.lst vs)) := Gr.newM hq
  have hd2 := hd1.up (hd1.x.trans (Ex.new hq)) g
  have hb : β.b q = none := by
    cases z : β.b q with
    | none => rfl
    | some o => exact absurd hq (hd1.g.there (by rw [z]; exact fun z => nomatch z))
  refine l.nx _ _ _ _ (hd2.setOwn (hd1.x.free hq) upd_same hb r1 fun j es q1 q2 => ?_) f
  obtain ⟨c, ws, h1, _, _, h4, _⟩ := hd1.own j es q1
  rw [q2] at h1
  cases h1
  rw [hq] at h4
  cases h4
/-- a, b = x, y -/
@[reducible, simp] def dPar (i j : Nat) (U : TDA) : TDS := fun E ρ => U ρ fun ds => ∃ d e, ds = [d, e] ∧ E.nx ((ρ.set i (some (.val d))).set j (some (.val e)))
theorem ds_par (i j : Nat) {x y : Str} {a b : Expr} {U : TDA} {px py pt : Pos} {kt k2 pt2} (hc : X.calm = true) (hN : X.N.Nodup) (ha : DA X [a, b] U) (hi : X.N[i]? = some x := by rfl) (hj : X.N[j]? = some y := by rfl) (hij : i ≠ j := by decide)
    (hx : X.env.scope.names.lookup x = some .local := by rfl) (hy : X.env.scope.names.lookup y = some .local := by rfl)
    (hw : swappedStores [.Tuple [.Name x px, .Name y py] kt pt] (.Tuple [a, b] k2 pt2) X.env = pure (some [x, y]) := by rfl)
    (hs : swapsWithSole [.Tuple [.Name x px, .Name y py] kt pt] (.Tuple [a, b] k2 pt2) pos.line X.env = pure false := by rfl) :
    DS X (.Assign [.Tuple [.Name x px, .Name y py] kt pt] (.Tuple [a, b] k2 pt2) pos) (dPar i j U) := by
  obtain ⟨t, p, v⟩ := ha
  refine ⟨_, ps_par hc hN hi hj hij hx hy p hw hs, fun β ρ H0 σ H E D' hd l h => v β ρ H0 σ H _ _ hd h fun ds vs H1 H1' f hl hd1 g1 r1 => ?_⟩
  obtain ⟨d, e, rfl, f⟩ := f
  cases r1 with
  | cons r rr =>
    cases rr with
    | cons r' rr =>
      cases rr
      exact ⟨_, _, rfl, l.nx _ _ _ _ ((hd1.set r).set r') f⟩
end

/-! ### targets -/
abbrev Asg := D → DEnv → (DEnv → Prop) → Prop
abbrev Asgs := List D → DEnv → (DEnv → Prop) → Prop
def DGV (K : PySem.W.Frag) (g : TG) (asg : Asg) (ix : List Nat) : Prop := ∀ (β : Base) (ρ : DEnv) (H0 : Hp) (σ : L2.St) (H : Hp) (v : V) (d : D) (F : DEnv → Prop) (R : L2.St → Hp → Prop), Hd K β ρ H0 σ H → Rep K H0 v d → asg d ρ F →
  (∀ ρ' σ', F ρ' → Hd K β ρ' H0 σ' H → (∀ vs : List Nat, (∀ i ∈ ix, i ∈ vs) → wipe σ' vs = wipe σ vs) → R σ' H) → g v σ H R
def DGsV (K : PySem.W.Frag) (g : TGs) (asg : Asgs) (ix : List Nat) : Prop := ∀ (β : Base) (ρ : DEnv) (H0 : Hp) (σ : L2.St) (H : Hp) (v : List V) (d : List D) (F : DEnv → Prop) (R : L2.St → Hp → Prop), Hd K β ρ H0 σ H → Reps K H0 v d → asg d ρ F →
  (∀ ρ' σ', F ρ' → Hd K β ρ' H0 σ' H → (∀ vs : List Nat, (∀ i ∈ ix, i ∈ vs) → wipe σ' vs = wipe σ vs) → R σ' H) → g v σ H R
structure DG (X : Cx) (tg : Expr) (asg : Asg) (ix : List Nat) : Prop where
  ex : ∃ g, PG X tg g ∧ DGV X.K g asg ix
structure DGs (X : Cx) (tgs : List Expr) (asg : Asgs) (ix : List Nat) : Prop where
  ex : ∃ g, PGs X tgs g ∧ DGsV X.K g asg ix
theorem wipe_get {σ : L2.St} {i : Nat} : ∀ {vs : List Nat}, (wipe σ vs)[i]? = if i ∈ vs then (if i < σ.length then some none else none) else σ[i]?
  | [] => by simp [wipe]
  | v :: vs => by
    have ih := @wipe_get σ i vs
    unfold wipe
    by_cases e : v = i
    · subst e
      by_cases hl : v < σ.length
      · rw [List.getElem?_set_self (by rw [wipe_length]; exact hl)]
        simp [hl]
      · rw [List.getElem?_eq_none (by rw [List.length_set, wipe_length]; omega)]
        simp [hl]
    · rw [List.getElem?_set_ne e, ih]
      have : (i = v) = False := by
        rw [eq_iff_iff]
        exact ⟨fun z => e z.symm, False.elim⟩
      simp only [List.mem_cons, this, false_or]
theorem wipe_set {σ : L2.St} {i : Nat} {x : Option V} {vs : List Nat} (h : i ∈ vs) : wipe (σ.set i x) vs = wipe σ vs := by
  apply List.ext_getElem?
  intro j
  rw [wipe_get, wipe_get, List.length_set]
  by_cases hj : j ∈ vs
  · rw [if_pos hj, if_pos hj]
  · rw [if_neg hj, if_neg hj]
    exact List.getElem?_set_ne (fun e => hj (by rw [← e]; exact h))
theorem wipe_wipe {σ : L2.St} {vs : List Nat} : wipe (wipe σ vs) vs = wipe σ vs := by
  apply List.ext_getElem?
  intro j
  rw [wipe_get, wipe_length]
  by_cases hj : j ∈ vs
  · rw [if_pos hj, wipe_get, if_pos hj]
  · rw [if_neg hj]
section
variable {X : Cx} {pos : Pos}
@[reducible, simp] def aName (i : Nat) : Asg := fun d ρ F => F (ρ.set i (some (.val d)))
theorem dg_name (i : Nat) {x : Str} (hN : X.N.Nodup) (hi : X.N[i]? = some x := by rfl) (hx : Loc X.env.scope x := by first | exact .inl rfl | exact .inr rfl) (hf : X.fn x = true ∨ X.env.scope.names.lookup x = some .local := by first | exact .inl rfl | exact .inr rfl) : DG X (.Name x pos) (aName i) [i] :=
  ⟨_, pg_name hN hi hx hf, fun β ρ H0 σ H v d F R hd r f k => k _ _ f (hd.set r) fun vs h => wipe_set (h i List.mem_cons_self)⟩
@[reducible, simp] def aNil : Asgs := fun ds ρ F => ds = [] ∧ F ρ
@[reducible, simp] def aCons (t : Asg) (u : Asgs) : Asgs := fun ds ρ F => ∃ d r, ds = d :: r ∧ t d ρ fun ρ' => u r ρ' F
theorem dgs_nil : DGs X [] aNil [] := ⟨_, pgs_nil, fun β ρ H0 σ H v d F R hd r ⟨e, f⟩ k => by
  subst e
  cases r
  exact ⟨rfl, k _ _ f hd fun _ _ => rfl⟩⟩
theorem dgs_cons {e : Expr} {es : List Expr} {t : Asg} {u : Asgs} {ix iy : List Nat} (h1 : DG X e t ix) (h2 : DGs X es u iy) (hs : (assignEach (e :: es) X.env).map (·.2) = assign e X.env :: (assignEach es X.env).map (·.2) := by rfl) : DGs X (e :: es) (aCons t u) (ix ++ iy) := by
  obtain ⟨g, p, v⟩ := h1
  obtain ⟨g2, p2, v2⟩ := h2
  refine ⟨_, pgs_cons p p2 hs, fun β ρ H0 σ H w d F R hd r ⟨d0, dr, e, f⟩ k => ?_⟩
  subst e
  cases r with
  | cons r1 r2 =>
    refine ⟨_, _, rfl, v β ρ H0 σ H _ _ _ _ hd r1 f fun ρ' σ' f' hd' w' => ?_⟩
    exact v2 β ρ' H0 σ' H _ _ F R hd' r2 f' fun ρ'' σ'' f'' hd'' w'' => k ρ'' σ'' f'' hd'' fun vs h => (w'' vs fun i hi => h i (List.mem_append_right _ hi)).trans (w' vs fun i hi => h i (List.mem_append_left _ hi))
@[reducible, simp] def aTup (n : Nat) (t : Asgs) : Asg := fun d ρ F => ∃ ds, d = .tup ds ∧ ds.length = n ∧ t ds ρ F
theorem dg_tup {es : List Expr} {k : Nat} {t : Asgs} {n : Nat} {ix : List Nat} (hc : X.calm = true) (h : DGs X es t ix) (hn : (assignEach es X.env).length = n := by rfl) (hst : (assignEach es X.env).findIdx? (·.1) = none := by rfl) : DG X (.Tuple es k pos) (aTup n t) ix := by
  obtain ⟨g, p, v⟩ := h
  refine ⟨_, pg_tup hc p hn hst, fun β ρ H0 σ H w d F R hd r ⟨ds, e, hl, f⟩ k => ?_⟩
  subst e
  cases r with
  | @tup a vs _ h1 h2 => exact ⟨a, vs, rfl, hd.x.sqT h1, by rw [h2.length]; exact hl, v β ρ H0 σ H vs ds F R hd h2 f k⟩
/-- target = value -/
@[reducible, simp] def dAsg (Te : TD) (g : Asg) : TDS := fun E ρ => Te ρ fun d => g d ρ E.nx
theorem ds_asg {tg e : Expr} {Te : TD} {g : Asg} {ix : List Nat} (he : DE X e Te) (hg : DG X tg g ix) (hs : swapsWithSole [tg] e pos.line X.env = pure false := by rfl) (hw : swappedStores [tg] e X.env = pure none := by rfl)
    (h1 : (assignEach [tg] X.env).map (·.2) = [assign tg X.env] := by rfl) : DS X (.Assign [tg] e pos) (dAsg Te g) := by
  obtain ⟨t, p, v⟩ := he
  obtain ⟨g', pg, vg⟩ := hg
  exact ⟨_, ps_asg p pg hs hw h1, fun β ρ H0 σ H E D' hd l h => v β ρ H0 σ H _ _ hd h fun d w H1 H1' f hd1 g1 r1 => vg β ρ H1 σ H1' w d _ _ hd1 r1 f fun ρ' σ' f' hd' _ => l.nx _ _ _ _ hd' f'⟩
end

/-! ### what is walked -/
def WalkD (K : PySem.W.Frag) (J : It) (ds : List D) (H0 : Hp) : Prop := ∃ (G : Hp → Prop) (Y : Nat → Hp → V → Hp → Prop), L2.Walk J ds.length G Y ∧ (∀ H, Ex H0 H → G H) ∧
  (∀ (i : Nat) (d : D) (H0' H : Hp) (v : V) (H'' : Hp), Ex H0 H0' → Ex H0' H → ds[i]? = some d → Y i H v H'' → ∃ H0'', Ex H0'' H'' ∧ Gr K H0' H H0'' H'' ∧ Rep K H0'' v d)
abbrev TDI := DEnv → (List D → Prop) → Prop
structure DI (X : Cx) (tg iter : Expr) (T : TDI) : Prop where
  ex : ∃ wi, PI X tg iter wi ∧ ∀ (β : Base) (ρ : DEnv) (H0 : Hp) (σ : L2.St) (H : Hp) (F : List D → Prop) (R : It → Hp → Prop), Hd X.K β ρ H0 σ H → T ρ F →
    (∀ ds J H0' H', F ds → Hd X.K β ρ H0' σ H' → Gr X.K H0 H H0' H' → WalkD X.K J ds H0' → R J H') → wi σ H R
section
variable {X : Cx} {tg e : Expr} {Te : TD} {pos : Pos}
theorem walkd_list {K : PySem.W.Frag} {H0 : Hp} {a : Addr} {vs : List V} {ds : List D} (h : H0 a = some (.lst vs)) (r : Reps K H0 vs ds) : WalkD K (Itl K a) ds H0 :=
  ⟨fun H => SqL K H a vs, YAt vs, by rw [← r.length]; exact walk_list, fun H x => SqL.of (x _ _ h), fun i d H0' H v H'' x0 x1 hd y => by
    obtain ⟨rfl, y⟩ := y
    obtain ⟨u, h1, h2⟩ := (r.up x0).get hd
    rw [y] at h1
    cases h1
    exact ⟨H0', x1, Gr.refl _ _ _, h2⟩⟩
theorem walkd_tup {K : PySem.W.Frag} {H0 : Hp} {a : Addr} {vs : List V} {ds : List D} (h : SqT K H0 a vs) (r : Reps K H0 vs ds) : WalkD K (Itt K a) ds H0 :=
  ⟨fun H => SqT K H a vs, YAt vs, by rw [← r.length]; exact walk_tup, fun H x => x.sqT h, fun i d H0' H v H'' x0 x1 hd y => by
    obtain ⟨rfl, y⟩ := y
    obtain ⟨u, h1, h2⟩ := (r.up x0).get hd
    rw [y] at h1
    cases h1
    exact ⟨H0', x1, Gr.refl _ _ _, h2⟩⟩
@[reducible, simp] def iLst (Te : TD) : TDI := fun ρ F => Te ρ fun d => ∃ ds, d = .lst ds ∧ F ds
@[reducible, simp] def iTupl (Te : TD) : TDI := fun ρ F => Te ρ fun d => ∃ ds, d = .tup ds ∧ F ds
theorem di_list (h : DE X e Te) : DI X tg e (iLst Te) := by
  obtain ⟨t, p, v⟩ := h
  refine ⟨_, pi_list p, fun β ρ H0 σ H F R hd h k => v β ρ H0 σ H _ _ hd h fun d w H1 H1' f hd1 g1 r1 => ?_⟩
  obtain ⟨ds, rfl, f⟩ := f
  cases r1 with
  | @lst a vs _ h1 h2 => exact ⟨a, rfl, ⟨vs, SqL.of (hd1.x _ _ h1)⟩, k ds _ H1 H1' f hd1 g1 (walkd_list h1 h2)⟩
theorem di_tup (h : DE X e Te) : DI X tg e (iTupl Te) := by
  obtain ⟨t, p, v⟩ := h
  refine ⟨_, pi_tup p, fun β ρ H0 σ H F R hd h k => v β ρ H0 σ H _ _ hd h fun d w H1 H1' f hd1 g1 r1 => ?_⟩
  obtain ⟨ds, rfl, f⟩ := f
  cases r1 with
  | @tup a vs _ h1 h2 => exact ⟨a, rfl, ⟨vs, hd1.x.sqT h1⟩, k ds _ H1 H1' f hd1 g1 (walkd_tup h1 h2)⟩
def rangeD (n : Nat) : List D := (List.range n).map fun (i : Nat) => D.int (i : Int)
@[reducible, simp] def iRng (Te : TD) : TDI := fun ρ F => Te ρ fun d => ∃ n : Int, d = .int n ∧ 0 ≤ n ∧ n ≤ 1000 ∧ F (rangeD n.toNat)
theorem walkd_range {K : PySem.W.Frag} {H0 : Hp} {n : Nat} : WalkD K (Itr 0 n) (rangeD n) H0 := by
  refine ⟨fun _ => True, YFn fun i => .int ((0 : Int) + i), ?_, fun _ _ => trivial, fun i d H0' H v H'' x0 x1 hd y => ?_⟩
  · have e : (rangeD n).length = n := by unfold rangeD; rw [List.length_map, List.length_range]
    rw [e]
    exact walk_range
  · obtain ⟨rfl, rfl⟩ := y
    refine ⟨H0', x1, Gr.refl _ _ _, ?_⟩
    unfold rangeD at hd
    rw [List.getElem?_map] at hd
    cases q : (List.range n)[i]? with
    | none =>
      rw [q] at hd
      cases hd
    | some j =>
      rw [q] at hd
      obtain ⟨hl, ej⟩ := List.getElem?_eq_some_iff.mp q
      rw [List.getElem_range] at ej
      subst ej
      cases hd
      show Rep K H0' (V.int ((0 : Int) + (i : Int))) (D.int (i : Int))
      rw [Int.zero_add]
      exact .int _
theorem di_range {p : Pos} (hm : X.mg "range" = none) (h : DE X e Te) (hg : Gl X "range" := by rfl) (hs : starEach [e] X.env = [(false, eval e X.env)] := by rfl) : DI X tg (.Call (.Name "range" p) [e] [] pos) (iRng Te) := by
  obtain ⟨t, p, v⟩ := h
  refine ⟨_, pi_range1 hg hm (pa_cons p pa_nil hs) hs, fun β ρ H0 σ H F R hd h k => v β ρ H0 σ H _ _ hd h fun d w H1 H1' f hd1 g1 r1 => ?_⟩
  obtain ⟨n, rfl, h0, h1, f⟩ := f
  cases r1
  exact ⟨n, rfl, by omega, by omega, k _ _ H1 H1' f hd1 g1 walkd_range⟩
end

/-! ### loops -/
/-- the rest of a for's turns -/
def ForD (asg : Asg) (Tb : TDS) (E : DEnds) : List D → DEnv → Prop
  | [], ρ => E.nx ρ
  | d :: ds, ρ => asg d ρ fun ρ1 => Tb { nx := ForD asg Tb E ds, ct := ForD asg Tb E ds, bk := E.nx, rt := E.rt } ρ1
section
variable {X : Cx} {pos : Pos} {body : List Stmt} {Tb : TDS}
@[reducible, simp] def dFor (TI : TDI) (asg : Asg) (Tb : TDS) : TDS := fun E ρ => TI ρ fun ds => ForD asg Tb E ds ρ
theorem ds_for {tg iter : Expr} {TI : TDI} {asg : Asg} {ix : List Nat} (hp : PassesOwn (model X.prog X.w) X.A X.env X.xe) (hc : X.calm = true) (hi : DI X tg iter TI) (hg : DG X tg asg ix) (hb : DSs X body Tb)
    (hs : ∀ x, foldedSetIterable iter X.env x = pure x := by intro _; rfl) : DS X (.For tg iter body [] pos) (dFor TI asg Tb) := by
  obtain ⟨wi, pi, vi⟩ := hi
  obtain ⟨g, pg, vg⟩ := hg
  obtain ⟨tb, pb, vb⟩ := hb
  refine ⟨_, ps_for hp hc pi pg pb hs, fun β ρ H0 σ H E D' hd l h => vi β ρ H0 σ H _ _ hd h fun ds J H1 H1' f hd1 g1 w => ?_⟩
  obtain ⟨G, Y, wk, hG, hY⟩ := w
  have back : ∀ {ρ' : DEnv} {H0' : Hp} {σ' : L2.St} {H' : Hp}, Hd X.K { β with z := H1 } ρ' H0' σ' H' → Hd X.K β ρ' H0' σ' H' := fun {ρ' H0' σ' H'} q => q.rez (hd1.z.trans q.z)
  refine for_it wk (fun i σ' H' => ∃ ρ' H0', Hd X.K { β with z := H1 } ρ' H0' σ' H' ∧ ForD asg Tb E (ds.drop i) ρ') ⟨ρ, H1, hd1.rez (Ex.refl _), f⟩ (fun i σ' H' _ ⟨ρ', H0', q, _⟩ => hG H' (q.z.trans q.x)) ?_ ?_
  · rintro i x σ' H' H'' hi ⟨ρ', H0', q, f'⟩ y
    have hd' : ds[i]? = some ds[i] := List.getElem?_eq_getElem hi
    obtain ⟨H0'', x2, g2, r2⟩ := hY i ds[i] H0' H' x H'' q.z q.x hd' y
    rw [List.drop_eq_getElem_cons hi] at f'
    refine vg _ ρ' H0'' σ' H'' x ds[i] _ _ (q.up x2 g2) r2 f' fun ρ2 σ2 f2 hd2 _ => ?_
    exact vb _ ρ2 H0'' σ2 H'' { nx := ForD asg Tb E (ds.drop (i + 1)), ct := ForD asg Tb E (ds.drop (i + 1)), bk := E.nx, rt := E.rt } _ hd2 ⟨fun ρ3 H3 σ3 H3' hd3 f3 => ⟨ρ3, H3, hd3, f3⟩, l.rt, fun ρ3 H3 σ3 H3' hd3 f3 => l.nx _ _ _ _ (back hd3) f3, fun ρ3 H3 σ3 H3' hd3 f3 => ⟨ρ3, H3, hd3, f3⟩⟩ f2
  · rintro σ' H' ⟨ρ', H0', q, f'⟩
    rw [List.drop_eq_nil_of_le (Nat.le_refl _)] at f'
    exact l.nx _ _ _ _ (back q) f'
@[reducible, simp] def dWhile (C : TDT) (Tb : TDS) : TDS := fun E ρ => ∃ I : Nat → DEnv → Prop, (∃ m, I m ρ) ∧ ∀ m ρ, I m ρ →
  C ρ fun b => if b = true then Tb { E with nx := fun ρ' => ∃ m', m' < m ∧ I m' ρ', ct := fun ρ' => ∃ m', m' < m ∧ I m' ρ', bk := E.nx } ρ else E.nx ρ
theorem ds_while {c : Expr} {C : TDT} (hp : PassesOwn (model X.prog X.w) X.A X.env X.xe) (hc : DT X c C) (hb : DSs X body Tb) : DS X (.While c body [] pos) (dWhile C Tb) := by
  obtain ⟨tc, pc, vc⟩ := hc
  obtain ⟨tb, pb, vb⟩ := hb
  refine ⟨_, ps_while hp pc pb, fun β ρ H0 σ H E D' hd l ⟨I, ⟨m0, i0⟩, st⟩ => ?_⟩
  refine ⟨fun m σ' H' => ∃ ρ' H0', Hd X.K β ρ' H0' σ' H' ∧ I m ρ', ⟨m0, ρ, H0, hd, i0⟩, ?_⟩
  rintro m σ' H' ⟨ρ', H0', hd', i'⟩
  refine vc β ρ' H0' σ' H' _ _ hd' (st m ρ' i') fun b H1 H1' f hd1 g1 => ?_
  cases b with
  | true => exact ⟨fun σ2 H2 => ∃ m', m' < m ∧ ∃ ρ2 H02, Hd X.K β ρ2 H02 σ2 H2 ∧ I m' ρ2, fun σ2 H2 q => q, vb β ρ' H1 σ' H1' { E with nx := fun ρ' => ∃ m', m' < m ∧ I m' ρ', ct := fun ρ' => ∃ m', m' < m ∧ I m' ρ', bk := E.nx } _ hd1 ⟨fun ρ3 H3 σ3 H3' hd3 ⟨m', hm, i3⟩ => ⟨m', hm, ρ3, H3, hd3, i3⟩, l.rt, fun ρ3 H3 σ3 H3' hd3 f3 => l.nx _ _ _ _ hd3 f3, fun ρ3 H3 σ3 H3' hd3 ⟨m', hm, i3⟩ => ⟨m', hm, ρ3, H3, hd3, i3⟩⟩ f⟩
  | false => exact l.nx _ _ _ _ hd1 f
end

/-! ### comprehensions -/
@[simp] def wipeD (ρ : DEnv) : List Nat → DEnv
  | [] => ρ
  | v :: vs => (wipeD ρ vs).set v none
theorem Hd.wipe {K : PySem.W.Frag} {β : Base} {ρ : DEnv} {H0 : Hp} {σ : L2.St} {H : Hp} (h : Hd K β ρ H0 σ H) : ∀ vs : List Nat, Hd K β (wipeD ρ vs) H0 (L2.wipe σ vs) H
  | [] => h
  | v :: vs => (h.wipe vs).del v
/-- the rest of a comprehension's turns, what is made so far -/
def CompD (asg : Asg) (Tt : TDT) (Te : TD) (ρw : DEnv) (k : List D → Prop) : List D → List D → Prop
  | [], acc => k acc
  | d :: ds, acc => asg d ρw fun ρ2 => Tt ρ2 fun b => if b = true then Te ρ2 fun y => CompD asg Tt Te ρw k ds (acc ++ [y]) else CompD asg Tt Te ρw k ds acc
structure DTs (X : Cx) (ifs : List Expr) (T : TDT) : Prop where
  ex : ∃ t, PTs X ifs t ∧ DTV X.K t T
@[reducible, simp] def dYes : TDT := fun _ F => F true
theorem dts_nil {X : Cx} : DTs X [] dYes := ⟨_, pts_nil, fun β ρ H0 σ H F R hd f k => k true H0 H f hd (Gr.refl _ _ _)⟩
theorem dts_one {X : Cx} {c : Expr} {T : TDT} (h : DT X c T) : DTs X [c] T := by
  obtain ⟨t, p, v⟩ := h
  exact ⟨_, pts_one p, v⟩
theorem Gr.mut {K : PySem.W.Frag} {H0 H H0' H' : Hp} (g : Gr K H0 H H0' H') {p : Addr} {o : HO} (hp : H p = none) : Gr K H0 H H0' (upd H' p o) where
  e0 := g.e0
  e := fun a u q n => by
    rw [upd_ne (ne_of_none q hp)]
    exact g.e a u q n
  dk := fun a kvs q => by
    obtain ⟨k', q', f⟩ := g.dk a kvs q
    exact ⟨k', by rw [upd_ne (ne_of_none q hp)]; exact q', f⟩
  sep := g.sep
theorem Gr.mut0 {K : PySem.W.Frag} {H0 H H0' H' : Hp} (g : Gr K H0 H H0' H') {p : Addr} {o : HO} (h0 : H0' p = none) (hp : H p = none) : Gr K H0 H (upd H0' p o) H' where
  e0 := g.e0.trans (Ex.new h0)
  e := g.e
  dk := fun a kvs q => by
    obtain ⟨k', q', f, n⟩ := g.dk a kvs q
    exact ⟨k', q', fun z => (f z).mono (Ex.new h0), n⟩
  sep := fun q h1 h2 => by
    have : q ≠ p := fun e => h2 (e ▸ hp)
    rw [upd_ne this]
    exact g.sep q h1 h2
section
variable {X : Cx} {pos : Pos}
@[reducible, simp] def dLc (TI : TDI) (asg : Asg) (Tt : TDT) (Te : TD) (vs : List Nat) : TD := fun ρ F => TI ρ fun ds => ds.length ≤ 100000 ∧ CompD asg Tt Te (wipeD ρ vs) (fun out => F (.lst out)) ds []
theorem dv_lc {K : PySem.W.Frag} {wi : TI} {g : TG} {tt : TT} {te : TE} {vs : List Nat} {TI : TDI} {asg : Asg} {Tt : TDT} {Te : TD} {ix : List Nat}
    (vi : ∀ (β : Base) (ρ : DEnv) (H0 : Hp) (σ : L2.St) (H : Hp) (F : List D → Prop) (R : It → Hp → Prop), Hd K β ρ H0 σ H → TI ρ F → (∀ ds J H0' H', F ds → Hd K β ρ H0' σ H' → Gr K H0 H H0' H' → WalkD K J ds H0' → R J H') → wi σ H R)
    (vg : DGV K g asg ix) (vt : DTV K tt Tt) (ve : DV K te Te) (hix : ∀ i ∈ ix, i ∈ vs) : DV K (tLc wi g tt te vs) (dLc TI asg Tt Te vs) := by
  intro β ρ H0 σ H F R hd h k
  refine vi β ρ H0 σ H _ _ hd h fun ds J H1 H1' f hd1 g1 w => ?_
  obtain ⟨hz, f⟩ := f
  obtain ⟨G, Y, wk, hG, hY⟩ := w
  intro Dl hDl
  have h0 : H1 Dl = none := hd1.x.free hDl
  have hdw := hd1.wipe vs
  refine lc_it wk (Qd := fun H' => R (.ref Dl) H') (fun i H' => ∃ H0' acc us, Ex H0' H' ∧ Gr K H1 H1' H0' H' ∧ H0' Dl = none ∧ H' Dl = some (.lst us) ∧ Reps K H0' us acc ∧ acc.length ≤ i ∧ CompD asg Tt Te (wipeD ρ vs) (fun out => F (.lst out)) (ds.drop i) acc)
    ⟨H1, [], [], hd1.x.trans (Ex.new hDl), Gr.newM hDl, h0, upd_same, .nil, Nat.le_refl _, f⟩ (fun i H' _ ⟨H0', acc, us, x', g', _⟩ => hG H' (g'.e0.trans x')) ?_ ?_
  · rintro i x H' H'' hi ⟨H0', acc, us, x', g', n', e', r', l', f'⟩ y
    have hd' : ds[i]? = some ds[i] := List.getElem?_eq_getElem hi
    obtain ⟨H2, x2, g2, r2⟩ := hY i ds[i] H0' H' x H'' g'.e0 x' hd' y
    rw [List.drop_eq_getElem_cons hi] at f'
    have n2 : H2 Dl = none := g2.sep Dl n' (by rw [e']; exact fun z => nomatch z)
    have e2 := g2.lst e'
    refine vg β _ H2 _ H'' x ds[i] _ _ (hdw.up x2 (g'.trans g2)) r2 f' fun ρ2 σ2 f2 hd2 wp => ?_
    refine ⟨(wp vs hix).trans wipe_wipe, ?_⟩
    refine vt β ρ2 H2 σ2 H'' _ _ hd2 f2 fun b H3 H3' f3 hd3 g3 => ?_
    have n3 : H3 Dl = none := g3.sep Dl n2 (by rw [e2]; exact fun z => nomatch z)
    have e3 := g3.lst e2
    cases b with
    | true =>
      refine ve β ρ2 H3 σ2 H3' _ _ hd3 f3 fun z zv H4 H4' f4 hd4 g4 r4 => ?_
      have n4 : H4 Dl = none := g4.sep Dl n3 (by rw [e3]; exact fun z => nomatch z)
      have e4 := g4.lst e3
      have gA := ((g'.trans g2).trans g3).trans g4
      refine ⟨us, e4, Nat.lt_of_le_of_lt (show us.length ≤ 100000 by rw [r'.length]; omega) (by decide), H4, acc ++ [z], us ++ [zv], ?_, gA.mut hDl, n4, upd_same, ((((r'.up g2.e0).up g3.e0).up g4.e0)).append (.cons r4 .nil), by rw [List.length_append, List.length_singleton]; omega, f4⟩
      exact fun a o q => by
        rw [upd_ne (ne_of_none q n4)]
        exact hd4.x a o q
    | false => exact ⟨H3, acc, us, hd3.x, (g'.trans g2).trans g3, n3, e3, (r'.up g2.e0).up g3.e0, by omega, f3⟩
  · rintro H' ⟨H0', acc, us, x', g', n', e', r', l', f'⟩
    rw [List.drop_eq_nil_of_le (Nat.le_refl _)] at f'
    have gE := g'.mut0 (o := .lst us) n' hDl
    have xE : Ex (upd H0' Dl (.lst us)) H' := fun a o q => by
      by_cases z : a = Dl
      · subst z
        rw [upd_same] at q
        cases q
        exact e'
      · rw [upd_ne z] at q
        exact x' a o q
    exact k (.lst acc) (.ref Dl) _ H' f' (hd1.up xE gE) (g1.trans gE) (.lst upd_same (r'.up (Ex.new n')))
theorem de_lc {elt tg iter : Expr} {ifs : List Expr} {scope : Scope} {TI : TDI} {asg : Asg} {Tt : TDT} {Te : TD} {ix : List Nat} (own : List (Str × Nat)) (hc : X.calm = true) (hN : X.N.Nodup) (hi : DI X tg iter TI) (ok : blkC X.N X.env.scope scope own = true)
    (hg : ∃ g, (∀ (s : Shared) (H : Hp) (C : Addr) (cl : List (Str × Addr)) (fp : List Addr), PG (X.blk s H scope (compEnvC scope cl C X.env) fp) tg g) ∧ DGV X.K g asg ix)
    (ht : ∃ t, (∀ (s : Shared) (H : Hp) (C : Addr) (cl : List (Str × Addr)) (fp : List Addr), PTs (X.blk s H scope (compEnvC scope cl C X.env) fp) ifs t) ∧ DTV X.K t Tt)
    (he : ∃ t, (∀ (s : Shared) (H : Hp) (C : Addr) (cl : List (Str × Addr)) (fp : List Addr), PE (X.blk s H scope (compEnvC scope cl C X.env) fp) elt t) ∧ DV X.K t Te)
    (hix : ∀ i ∈ ix, i ∈ own.map (·.2) := by decide) (hs : ∀ x, foldedSetIterable iter X.env x = pure x := by intro _; rfl) :
    DE X (.ListComp elt [⟨tg, iter, ifs, 0⟩] scope pos) (dLc TI asg Tt Te (own.map (·.2))) := by
  obtain ⟨wi, pi, vi⟩ := hi
  obtain ⟨g, pg, vg⟩ := hg
  obtain ⟨t, pt, vt⟩ := ht
  obtain ⟨te, pe, ve⟩ := he
  exact ⟨_, pe_lc hc hN pi (blkOk_by ok) pg pt pe hs, dv_lc vi vg vt ve hix⟩
end
end DL

set_option Elab.async false
set_option linter.all false
set_option maxRecDepth 100000
set_option maxHeartbeats 4000000
namespace DL
open PySem PySem.Spec PyProof.Rows L2

/-! ### one reading for all contexts -/
def semT (K : PySem.W.Frag) (T : TD) : TE := fun σ H R => ∃ (β : Base) (ρ : DEnv) (H0 : Hp) (F : D → Prop), Hd K β ρ H0 σ H ∧ T ρ F ∧ ∀ d v H0' H', F d → Hd K β ρ H0' σ H' → Gr K H0 H H0' H' → Rep K H0' v d → R v H'
theorem DE.sem {X : Cx} {e : Expr} {T : TD} (h : DE X e T) : PE X e (semT X.K T) := by
  obtain ⟨t, p, v⟩ := h
  exact ⟨fun pins s σ H Q I ⟨β, ρ, H0, F, hd, f, k⟩ => p.run pins s σ H Q I (v β ρ H0 σ H F Q hd f k)⟩
theorem dv_sem {K : PySem.W.Frag} {T : TD} : DV K (semT K T) T := fun β ρ H0 σ H F R hd f k => ⟨β, ρ, H0, F, hd, f, k⟩
def semTT (K : PySem.W.Frag) (T : TDT) : TT := fun σ H R => ∃ (β : Base) (ρ : DEnv) (H0 : Hp) (F : Bool → Prop), Hd K β ρ H0 σ H ∧ T ρ F ∧ ∀ b H0' H', F b → Hd K β ρ H0' σ H' → Gr K H0 H H0' H' → R b H'
theorem DTs.sem {X : Cx} {e : List Expr} {T : TDT} (h : DTs X e T) : PTs X e (semTT X.K T) := by
  obtain ⟨t, p, v⟩ := h
  exact ⟨fun pins s σ H Q I ⟨β, ρ, H0, F, hd, f, k⟩ => p.run pins s σ H Q I (v β ρ H0 σ H F Q hd f k)⟩
theorem dtv_sem {K : PySem.W.Frag} {T : TDT} : DTV K (semTT K T) T := fun β ρ H0 σ H F R hd f k => ⟨β, ρ, H0, F, hd, f, k⟩
def semG (K : PySem.W.Frag) (asg : Asg) (ix : List Nat) : TG := fun v σ H R => ∃ (β : Base) (ρ : DEnv) (H0 : Hp) (d : D) (F : DEnv → Prop), Hd K β ρ H0 σ H ∧ Rep K H0 v d ∧ asg d ρ F ∧ ∀ ρ' σ', F ρ' → Hd K β ρ' H0 σ' H → (∀ vs : List Nat, (∀ i ∈ ix, i ∈ vs) → wipe σ' vs = wipe σ vs) → R σ' H
theorem DG.sem {X : Cx} {e : Expr} {asg : Asg} {ix : List Nat} (h : DG X e asg ix) : PG X e (semG X.K asg ix) := by
  obtain ⟨t, p, v⟩ := h
  exact ⟨fun pins s σ H w u Q I r ⟨β, ρ, H0, d, F, hd, rr, f, k⟩ => p.run pins s σ H w u Q I r (v β ρ H0 σ H w d F Q hd rr f k)⟩
theorem dgv_sem {K : PySem.W.Frag} {asg : Asg} {ix : List Nat} : DGV K (semG K asg ix) asg ix := fun β ρ H0 σ H v d F R hd r f k => ⟨β, ρ, H0, d, F, hd, r, f, k⟩
section
variable {X : Cx} {pos : Pos}
/-- [elt for tg in iter if ..] -/
theorem de_comp {elt tg iter : Expr} {ifs : List Expr} {scope : Scope} {TI : TDI} {asg : Asg} {Tt : TDT} {Te : TD} {ix : List Nat} (own : List (Str × Nat)) (hc : X.calm = true) (hN : X.N.Nodup) (hi : DI X tg iter TI)
    (hg : ∀ (s : Shared) (H : Hp) (C : Addr) (cl : List (Str × Addr)) (fp : List Addr), DG (X.blk s H scope (compEnvC scope cl C X.env) fp) tg asg ix)
    (ht : ∀ (s : Shared) (H : Hp) (C : Addr) (cl : List (Str × Addr)) (fp : List Addr), DTs (X.blk s H scope (compEnvC scope cl C X.env) fp) ifs Tt)
    (he : ∀ (s : Shared) (H : Hp) (C : Addr) (cl : List (Str × Addr)) (fp : List Addr), DE (X.blk s H scope (compEnvC scope cl C X.env) fp) elt Te)
    (ok : blkC X.N X.env.scope scope own = true) (hix : ∀ i ∈ ix, i ∈ own.map (·.2) := by decide) (hs : ∀ x, foldedSetIterable iter X.env x = pure x := by intro _; rfl) :
    DE X (.ListComp elt [⟨tg, iter, ifs, 0⟩] scope pos) (dLc TI asg Tt Te (own.map (·.2))) :=
  de_lc own hc hN hi ok ⟨_, fun s H C cl fp => (hg s H C cl fp).sem, dgv_sem⟩ ⟨_, fun s H C cl fp => (ht s H C cl fp).sem, dtv_sem⟩ ⟨_, fun s H C cl fp => (he s H C cl fp).sem, dv_sem⟩ hix hs
/-- name = [elt for ..], the name a local -/
theorem ds_setComp (i : Nat) {y : Str} {py : Pos} {elt tg iter : Expr} {ifs : List Expr} {scope : Scope} {spos : Pos} {TI : TDI} {asg : Asg} {Tt : TDT} {Te : TD} {ix : List Nat} (own : List (Str × Nat)) (hc : X.calm = true) (hN : X.N.Nodup) (hi : DI X tg iter TI)
    (hg : ∀ (s : Shared) (H : Hp) (C : Addr) (cl : List (Str × Addr)) (fp : List Addr), DG (X.blk s H scope (compEnvC scope cl C X.env) fp) tg asg ix)
    (ht : ∀ (s : Shared) (H : Hp) (C : Addr) (cl : List (Str × Addr)) (fp : List Addr), DTs (X.blk s H scope (compEnvC scope cl C X.env) fp) ifs Tt)
    (he : ∀ (s : Shared) (H : Hp) (C : Addr) (cl : List (Str × Addr)) (fp : List Addr), DE (X.blk s H scope (compEnvC scope cl C X.env) fp) elt Te)
    (ok : blkC X.N X.env.scope scope own = true) (hsw : swapsWith (.ListComp elt [⟨tg, iter, ifs, 0⟩] scope pos) (some (.Name y py)) spos.line X.env = pure true) (hy : X.N[i]? = some y := by rfl) (hyl : X.env.scope.names.lookup y = some .local := by rfl)
    (hix : ∀ i ∈ ix, i ∈ own.map (·.2) := by decide) (hs : ∀ x, foldedSetIterable iter X.env x = pure x := by intro _; rfl) :
    DS X (.Assign [.Name y py] (.ListComp elt [⟨tg, iter, ifs, 0⟩] scope pos) spos) (dSet i (dLc TI asg Tt Te (own.map (·.2)))) := by
  obtain ⟨wi, pi, vi⟩ := hi
  refine ⟨_, ps_setLc (g := semG X.K asg ix) (tt := semTT X.K Tt) (te := semT X.K Te) hc hN hy hyl hsw pi (blkOk_by ok) (fun s H C cl fp => (hg s H C cl fp).sem) (fun s H C cl fp => (ht s H C cl fp).sem) (fun s H C cl fp => (he s H C cl fp).sem) hs, fun β ρ H0 σ H E D' hd l h => ?_⟩
  exact dv_lc vi dgv_sem dtv_sem dv_sem hix β ρ H0 σ H _ _ hd h fun d w H1 H1' f hd1 g1 r1 => l.nx _ _ _ _ (hd1.set r1) f
end

/-! ### defs -/
def argS : D → S
  | .feed => .feed
  | d => .val d
@[simp] def startD (N : List Str) (ds : List D) : DEnv := ds.map (fun d => some (argS d)) ++ List.replicate (N.length - ds.length) none
section
variable {P : Program} {w : World} {K : PySem.W.Frag} {mg : Str → Option Value} {base : Heap}
theorem RepAs.length {H0 H : Hp} : ∀ {vs : List V} {ds : List D}, RepAs K H0 H vs ds → vs.length = ds.length
  | _, _, .nil => rfl
  | _, _, .cons _ t => by
    show _ + 1 = _ + 1
    rw [RepAs.length t]
theorem RepAs.get {H0 H : Hp} : ∀ {vs : List V} {ds : List D} {i : Nat} {d : D}, RepAs K H0 H vs ds → ds[i]? = some d → ∃ v, vs[i]? = some v ∧ RepA K H0 H v d
  | _, _, _, _, .nil, e => by simp at e
  | _, _, 0, _, .cons r _, e => by simp at e; subst e; exact ⟨_, rfl, r⟩
  | _, _, i + 1, x, .cons _ t, e => by
    obtain ⟨u, h1, h2⟩ := RepAs.get (i := i) (d := x) t (by simpa using e)
    exact ⟨u, by simpa using h1, h2⟩
theorem argS_val {d e : D} (h : argS d = .val e) : d = e ∧ d ≠ .feed := by
  cases d <;> first | (cases h; exact ⟨rfl, fun z => nomatch z⟩) | cases h
theorem hd_start {N : List Str} {vs : List V} {ds : List D} {H0 H : Hp} (x : Ex H0 H) (r : RepAs K H0 H vs ds) : Hd K ⟨H0, H, H0⟩ (startD N ds) H0 (L2.start N vs) H := by
  have hl := r.length
  have key : ∀ (i : Nat) (z : S), (startD N ds)[i]? = some (some z) → ∃ d, ds[i]? = some d ∧ argS d = z ∧ ∃ v, vs[i]? = some v ∧ (L2.start N vs)[i]? = some (some v) ∧ RepA K H0 H v d := fun i z e => by
    unfold startD at e
    by_cases hi : i < ds.length
    · rw [List.getElem?_append_left (by rw [List.length_map]; exact hi), List.getElem?_map, List.getElem?_eq_getElem hi] at e
      have e' : argS ds[i] = z := by simpa using e
      obtain ⟨v, h1, h2⟩ := r.get (List.getElem?_eq_getElem hi)
      refine ⟨ds[i], List.getElem?_eq_getElem hi, e', v, h1, ?_, h2⟩
      unfold L2.start
      rw [List.getElem?_append_left (by rw [List.length_map]; omega), List.getElem?_map, h1]
      rfl
    · rw [List.getElem?_append_right (by rw [List.length_map]; omega), List.getElem?_replicate] at e
      split at e <;> cases e
  refine ⟨x, Gr.refl _ _ _, Ex.refl _, ?_, fun i d e => ?_, fun i es e => ?_, fun i e => ?_, fun i j es fs p e _ _ _ => ?_⟩
  · unfold L2.start startD
    rw [List.length_append, List.length_append, List.length_map, List.length_map, List.length_replicate, List.length_replicate, hl]
  · obtain ⟨d', h1, h2, v, h3, h4, h5⟩ := key i _ e
    obtain ⟨e1, e2⟩ := argS_val h2
    subst e1
    rcases h5 with h5 | ⟨h5, _⟩
    · exact ⟨v, h4, h5⟩
    · exact absurd h5 e2
  · obtain ⟨d', h1, h2, _⟩ := key i _ e
    cases d' <;> cases h2
  · obtain ⟨d', h1, h2, v, h3, h4, h5⟩ := key i _ e
    rcases h5 with h5 | ⟨h5, a, h6, h7⟩
    · cases d' <;> first | (cases h2; done) | cases h5
    · subst h6
      exact ⟨a, h4, h7⟩
  · obtain ⟨d', h1, h2, _⟩ := key i _ e
    cases d' <;> cases h2
/-- a def keeps a contract: its body's reading over data -/
theorem fun_okD {x qual : Str} {st : Stmt} {f : Addr} {fd : FuncData} {N ps : List Str} {k : Nat} {C : Ct} (F : L2.Fun K x qual st f fd) (S' : FnScope N ps (defScope st)) (len : ∀ ds G, C ds G → ds.length = ps.length)
    (hb : ∃ T : TDS, (∀ (cdv : Value) (A : Around) (outer : List Env) (s : Shared) (H : Hp) (E : XK), Room k (A.deeper (envOfC qual (defScope st) s.heap.objs.size f cdv)) → DSs (cxOf CX0 P w K mg base N qual (defScope st) f cdv A outer s H E).nox (defBody st) T) ∧
      ∀ ds G, C ds G → T { nx := fun _ => G .non, rt := G } (startD N ds)) : FnOk P w K mg base CX0 (k + 1) f fd ps (spC K C) := by
  obtain ⟨T, hbody, hC⟩ := hb
  refine F.ok S' (fun vs H Q E h => ?_) (fun cdv A outer s H vs Q E hr h => ?_)
  · obtain ⟨H0, ds, G, x, r, c, _⟩ := h
    rw [r.length]
    exact len ds G c
  · obtain ⟨H0, ds, G, x, r, c, q⟩ := h
    obtain ⟨t, p, v⟩ := hbody cdv A outer s H E hr
    refine ⟨t, p, v ⟨H0, H, H0⟩ _ H0 _ H { nx := fun _ => G .non, rt := G } _ (hd_start x r) ⟨fun ρ H0' σ H' hd' g => ?_, fun d w H0' H' x' g' r' f => q d w H0' H' f x' g' r', fun _ _ _ _ _ z => z.elim, fun _ _ _ _ _ z => z.elim⟩ (hC ds G c)⟩
    exact q .non .non H0' H' g hd'.x hd'.g .non
end
end DL
namespace DL
open PySem PySem.Spec PyProof.Rows L2
/-! ### defs by name -/
/-- the def called x keeps the contract C -/
def Cal (P : Program) (w : World) (K : PySem.W.Frag) (mg : Str → Option Value) (base : Heap) (x : Str) (k : Nat) (ps : List Str) (C : Ct) : Prop :=
  ∃ f fd, FnOk P w K mg base CX0 k f fd ps (spC K C) ∧ mg x = some (.ref f) ∧ PySem.W.keepIn K (.ref f) = true ∧ Binds K fd ps []
/-- the def st of the text stands under the name x -/
def Def (K : PySem.W.Frag) (mg : Str → Option Value) (x q : Str) (st : Stmt) (ps : List Str) : Prop := ∃ f fd, L2.Fun K q q st f fd ∧ mg x = some (.ref f) ∧ Binds K fd ps []
/-- a module's constant -/
def Con (K : PySem.W.Frag) (mg : Str → Option Value) (x : Str) (d : D) : Prop := ∃ v u, mg x = some u ∧ RelV v u ∧ ∀ H0, Rep K H0 v d
section
variable {P : Program} {w : World} {K : PySem.W.Frag} {mg : Str → Option Value} {base : Heap} {X : Cx}
theorem cal_of {x q : Str} {st : Stmt} {N ps : List Str} {k : Nat} {C : Ct} (d : Def K mg x q st ps) (S' : FnScope N ps (defScope st)) (len : ∀ ds G, C ds G → ds.length = ps.length)
    (hb : ∃ T : TDS, (∀ (f : Addr) (cdv : Value) (A : Around) (outer : List Env) (s : Shared) (H : Hp) (E : XK), Room k (A.deeper (envOfC q (defScope st) s.heap.objs.size f cdv)) → DSs (cxOf CX0 P w K mg base N q (defScope st) f cdv A outer s H E).nox (defBody st) T) ∧
      ∀ ds G, C ds G → T { nx := fun _ => G .non, rt := G } (startD N ds)) : Cal P w K mg base x (k + 1) ps C := by
  obtain ⟨f, fd, F, m, b⟩ := d
  obtain ⟨T, h1, h2⟩ := hb
  exact ⟨f, fd, fun_okD F S' len ⟨T, h1 f, h2⟩, m, F.kp, b⟩
theorem Cal.mono {x : Str} {j k : Nat} {ps : List Str} {C : Ct} (c : Cal P w K mg base x j ps C) (h : j ≤ k) : Cal P w K mg base x k ps C := by
  obtain ⟨f, fd, G, r⟩ := c
  exact ⟨f, fd, G.mono h, r⟩
theorem Cal.imp {x : Str} {k : Nat} {ps : List Str} {C C' : Ct} (c : Cal P w K mg base x k ps C) (h : ∀ ds F, C' ds F → C ds F) : Cal P w K mg base x k ps C' := by
  obtain ⟨f, fd, G, r⟩ := c
  exact ⟨f, fd, G.imp fun vs H Q E ⟨H0, ds, F, x, rr, cc, kk⟩ => ⟨H0, ds, F, x, rr, h ds F cc, kk⟩, r⟩
theorem de_fn {a : Expr} {es : List Expr} {pos p : Pos} {C : Ct} {U : TDA} {j k : Nat} {ps : List Str} {x : Str} (c : Cal X.prog X.w X.K X.mg X.base x j ps C) (hr : Room k X.A) (ha : DF X (a :: es) U) (hjk : j ≤ k := by decide)
    (hg : Gl X x := by rfl) (hdb : (x == ("__debug__" : Str)) = false := by decide) (he : starEach (a :: es) X.env = (false, eval a X.env) :: starEach es X.env := by rfl) (hpl : (backTo pos (starEach es X.env)).any (·.1) = false := by rfl) :
    DE X (.Call (.Name x p) (a :: es) [] pos) (dCall C U) := by
  obtain ⟨f, fd, G, m, kp, b⟩ := c
  exact de_call G (hr.mono hjk) m kp b ha hg hdb he hpl
theorem de_con {x : Str} {d : D} {pos : Pos} (c : Con X.K X.mg x d) (hg : Gl X x := by rfl) (hd : (x == ("__debug__" : Str)) = false := by decide) : DE X (.Name x pos) (dC d) := by
  obtain ⟨v, u, m, r, rr⟩ := c
  exact de_glob m rr r hg hd
end
/-- the built-ins' names are the built-ins' -/
structure Blt (mg : Str → Option Value) : Prop where
  isinstance : mg "isinstance" = none
  int : mg "int" = none
  bool : mg "bool" = none
  tuple : mg "tuple" = none
  list : mg "list" = none
  len : mg "len" = none
  abs : mg "abs" = none
  all : mg "all" = none
  any : mg "any" = none
  zip : mg "zip" = none
  range : mg "range" = none
  min : mg "min" = none
  max : mg "max" = none
end DL

set_option Elab.async false
set_option linter.all false
set_option maxRecDepth 100000
set_option maxHeartbeats 4000000
namespace DL
open PySem PySem.Spec PyProof.Rows L2

/-! ### lists of the def's own: len, items, append, insert, extend -/
section
variable {X : Cx} {a b e : Expr} {Ta Tb Te : TD} {pos : Pos}
@[reducible, simp] def dLenO (i : Nat) : TD := fun ρ F => ∃ ds, ρ[i]? = some (some (.own ds)) ∧ F (.int ds.length)
theorem de_lenO (i : Nat) {x : Str} {p p2 : Pos} (hm : X.mg "len" = none) (hg : Gl X "len" := by rfl) (hN : X.N[i]? = some x := by rfl) (hv : Vis X.env.scope x := by first | exact Or.inl rfl | exact Or.inr (Or.inl rfl) | exact Or.inr (Or.inr rfl)) (hd : (x == ("__debug__" : Str)) = false := by decide)
    (hcd : (x == ("__classdict__" : Str)) = false := by decide) (hs : starEach [.Name x p2] X.env = (false, eval (.Name x p2) X.env) :: starEach [] X.env := by rfl) (hpl : (backTo pos (starEach [] X.env)).any (·.1) = false := by rfl) :
    DE X (.Call (.Name "len" p) [.Name x p2] [] pos) (dLenO i) := by
  refine ⟨_, pe_callB call_len_seq hg hm PySem.boot_len (pa_cons (pe_var hN hv hd hcd) pa_nil hs) (by decide) (by decide) hs hpl, fun β ρ H0 σ H F R hd ⟨ds, h1, f⟩ k => ?_⟩
  obtain ⟨c, vs, h2, h3, h4, h5, h6⟩ := hd.own i ds h1
  refine ⟨_, h2, c, vs, rfl, .inl (SqL.of h5), ?_⟩
  rw [h6.length]
  exact k _ _ H0 H f hd (Gr.refl _ _ _) (.int _)
@[reducible, simp] def dIxO (i : Nat) (Tb : TD) : TD := fun ρ F => ∃ ds, ρ[i]? = some (some (.own ds)) ∧ Tb ρ fun y => ∃ d, ixD (.lst ds) y = some d ∧ F d
theorem de_ixO (i : Nat) {x : Str} {p : Pos} (hb : DE X b Tb) (hs : PlainIx b := by exact fun _ _ => rfl) (hN : X.N[i]? = some x := by rfl) (hv : Vis X.env.scope x := by first | exact Or.inl rfl | exact Or.inr (Or.inl rfl) | exact Or.inr (Or.inr rfl)) (hd : (x == ("__debug__" : Str)) = false := by decide)
    (hcd : (x == ("__classdict__" : Str)) = false := by decide) : DE X (.Subscript (.Name x p) b pos) (dIxO i Tb) := by
  obtain ⟨tb, pb, vb⟩ := hb
  refine ⟨_, pe_ix ix_list (pe_var hN hv hd hcd) pb hs, fun β ρ H0 σ H F R hd ⟨ds, h1, h⟩ k => ?_⟩
  obtain ⟨c, vs, h2, h3, h4, h5, h6⟩ := hd.own i ds h1
  refine ⟨_, h2, ?_⟩
  refine vb β ρ H0 σ H _ _ hd h fun y w H1 H1' hy hd1 g1 r1 => ?_
  obtain ⟨d, e, f⟩ := hy
  cases r1 with
  | int j =>
    obtain ⟨v, e', r⟩ := atI_rep (h6.up g1.e0) e
    exact ⟨c, vs, j, v, rfl, rfl, SqL.of (g1.lst h5), e', k d v H1 H1' f hd1 g1 r⟩
  | _ => cases e
/-- x.append(e) -/
@[reducible, simp] def dAppend (i : Nat) (Te : TD) : TDS := fun E ρ => ∃ ds, ρ[i]? = some (some (.own ds)) ∧ ds.length < 100000 ∧ Te ρ fun d => E.nx (ρ.set i (some (.own (ds ++ [d]))))
theorem ds_append (i : Nat) {x : Str} {p apos cpos : Pos} (he : DE X e Te) (hN : X.N[i]? = some x := by rfl) (hv : Vis X.env.scope x := by first | exact Or.inl rfl | exact Or.inr (Or.inl rfl) | exact Or.inr (Or.inr rfl)) (hd : (x == ("__debug__" : Str)) = false := by decide)
    (hcd : (x == ("__classdict__" : Str)) = false := by decide) (hbase : attributeBase (.Name x p) "append" X.env (eval (.Name x p) X.env) = eval (.Name x p) X.env := by rfl)
    (hfew : ((backTo cpos (starEach [e] X.env)).all (fun x => !x.1) && (backToKw cpos (keywordEach [] X.env)).all (fun x => x.1.isSome) && decide ([e].length + ([] : List Keyword).length + (if ([] : List Keyword).isEmpty then 0 else 1) < 30)) = true := by rfl)
    (hline : (apos.endLine == cpos.line) = true := by rfl) (hs : starEach [e] X.env = (false, eval e X.env) :: starEach [] X.env := by rfl) (hplain : (backTo cpos (starEach [] X.env)).any (·.1) = false := by rfl)
    (hsw : swapsWith (.Call (.Attribute (.Name x p) "append" apos) [e] [] cpos) none pos.line X.env = pure false := by rfl) :
    DS X (.Expr (.Call (.Attribute (.Name x p) "append" apos) [e] [] cpos) pos) (dAppend i Te) := by
  obtain ⟨te, pe, ve⟩ := he
  refine ⟨_, ps_expr (pe_bm PySem.F.plainAttrs_list PySem.F.slot_list_append PySem.F.type_list_append mt_append (pe_var hN hv hd hcd) (pa_cons pe pa_nil hs) hbase hfew hline hs hplain) hsw, fun β ρ H0 σ H E D' hd l ⟨ds, h1, hz, h⟩ => ?_⟩
  obtain ⟨c, vs, h2, h3, h4, h5, h6⟩ := hd.own i ds h1
  refine ⟨_, h2, .inl ⟨rfl, _, SqL.of h5⟩, ?_⟩
  refine ve β ρ H0 σ H _ _ hd h fun d w H1 H1' f hd1 g1 r1 => ?_
  refine ⟨c, vs, w, rfl, rfl, g1.lst h5, Nat.lt_of_lt_of_le (show vs.length < 100000 by rw [h6.length]; exact hz) (by decide), ?_⟩
  exact l.nx _ _ _ _ (hd1.turn h1 h2 (g1.lst h5) ((h6.up g1.e0).append (.cons r1 .nil))) f
/-- x.insert(i, e) -/
@[reducible, simp] def dInsert (i : Nat) (U : TDA) : TDS := fun E ρ => ∃ ds, ρ[i]? = some (some (.own ds)) ∧ ds.length < 100000 ∧ U ρ fun xs => ∃ j d, xs = [.int j, d] ∧ 0 ≤ j ∧ j < 100000 ∧ E.nx (ρ.set i (some (.own (ds.take j.toNat ++ [d] ++ ds.drop j.toNat))))
theorem ds_insert (i : Nat) {x : Str} {p apos cpos : Pos} {U : TDA} (he : DA X [a, e] U) (hN : X.N[i]? = some x := by rfl) (hv : Vis X.env.scope x := by first | exact Or.inl rfl | exact Or.inr (Or.inl rfl) | exact Or.inr (Or.inr rfl)) (hd : (x == ("__debug__" : Str)) = false := by decide)
    (hcd : (x == ("__classdict__" : Str)) = false := by decide) (hbase : attributeBase (.Name x p) "insert" X.env (eval (.Name x p) X.env) = eval (.Name x p) X.env := by rfl)
    (hfew : ((backTo cpos (starEach [a, e] X.env)).all (fun x => !x.1) && (backToKw cpos (keywordEach [] X.env)).all (fun x => x.1.isSome) && decide ([a, e].length + ([] : List Keyword).length + (if ([] : List Keyword).isEmpty then 0 else 1) < 30)) = true := by rfl)
    (hline : (apos.endLine == cpos.line) = true := by rfl) (hs : starEach [a, e] X.env = (false, eval a X.env) :: starEach [e] X.env := by rfl) (hplain : (backTo cpos (starEach [e] X.env)).any (·.1) = false := by rfl)
    (hsw : swapsWith (.Call (.Attribute (.Name x p) "insert" apos) [a, e] [] cpos) none pos.line X.env = pure false := by rfl) :
    DS X (.Expr (.Call (.Attribute (.Name x p) "insert" apos) [a, e] [] cpos) pos) (dInsert i U) := by
  obtain ⟨te, pe, ve⟩ := he
  refine ⟨_, ps_expr (pe_bm PySem.F.plainAttrs_list PySem.F.slot_list_insert PySem.F.type_list_insert mt_insert (pe_var hN hv hd hcd) pe hbase hfew hline hs hplain) hsw, fun β ρ H0 σ H E D' hd l ⟨ds, h1, hz, h⟩ => ?_⟩
  obtain ⟨c, vs, h2, h3, h4, h5, h6⟩ := hd.own i ds h1
  refine ⟨_, h2, .inl ⟨rfl, _, SqL.of h5⟩, ?_⟩
  refine ve β ρ H0 σ H _ _ hd h fun xs ws H1 H1' f hl hd1 g1 r1 => ?_
  obtain ⟨j, d, rfl, j0, j1, f⟩ := f
  cases r1 with
  | @cons w1 ws1 _ _ ra rr =>
    cases rr with
    | @cons w2 _ _ _ rb rr =>
      cases rr
      cases ra
      refine ⟨c, vs, j, w2, rfl, rfl, g1.lst h5, Nat.lt_of_lt_of_le (show vs.length < 100000 by rw [h6.length]; exact hz) (by decide), j0, by omega, ?_⟩
      have r6 := h6.up g1.e0
      exact l.nx _ _ _ _ (hd1.turn h1 h2 (g1.lst h5) (((r6.take _).append (.cons rb .nil)).append (r6.drop _))) f
/-- x.extend(e) -/
@[reducible, simp] def dExtend (i : Nat) (Te : TD) : TDS := fun E ρ => ∃ ds, ρ[i]? = some (some (.own ds)) ∧ Te ρ fun d => ∃ es, d = .lst es ∧ ds.length + es.length ≤ 100000 ∧ E.nx (ρ.set i (some (.own (ds ++ es))))
theorem ds_extend (i : Nat) {x : Str} {p apos cpos : Pos} (he : DE X e Te) (hN : X.N[i]? = some x := by rfl) (hv : Vis X.env.scope x := by first | exact Or.inl rfl | exact Or.inr (Or.inl rfl) | exact Or.inr (Or.inr rfl)) (hd : (x == ("__debug__" : Str)) = false := by decide)
    (hcd : (x == ("__classdict__" : Str)) = false := by decide) (hbase : attributeBase (.Name x p) "extend" X.env (eval (.Name x p) X.env) = eval (.Name x p) X.env := by rfl)
    (hfew : ((backTo cpos (starEach [e] X.env)).all (fun x => !x.1) && (backToKw cpos (keywordEach [] X.env)).all (fun x => x.1.isSome) && decide ([e].length + ([] : List Keyword).length + (if ([] : List Keyword).isEmpty then 0 else 1) < 30)) = true := by rfl)
    (hline : (apos.endLine == cpos.line) = true := by rfl) (hs : starEach [e] X.env = (false, eval e X.env) :: starEach [] X.env := by rfl) (hplain : (backTo cpos (starEach [] X.env)).any (·.1) = false := by rfl)
    (hsw : swapsWith (.Call (.Attribute (.Name x p) "extend" apos) [e] [] cpos) none pos.line X.env = pure false := by rfl) :
    DS X (.Expr (.Call (.Attribute (.Name x p) "extend" apos) [e] [] cpos) pos) (dExtend i Te) := by
  obtain ⟨te, pe, ve⟩ := he
  refine ⟨_, ps_expr (pe_bm PySem.F.plainAttrs_list PySem.F.slot_list_extend PySem.F.type_list_extend mt_extend (pe_var hN hv hd hcd) (pa_cons pe pa_nil hs) hbase hfew hline hs hplain) hsw, fun β ρ H0 σ H E D' hd l ⟨ds, h1, h⟩ => ?_⟩
  obtain ⟨c, vs, h2, h3, h4, h5, h6⟩ := hd.own i ds h1
  refine ⟨_, h2, .inl ⟨rfl, _, SqL.of h5⟩, ?_⟩
  refine ve β ρ H0 σ H _ _ hd h fun d w H1 H1' f hd1 g1 r1 => ?_
  obtain ⟨es, rfl, hz, f⟩ := f
  cases r1 with
  | @lst b us _ r7 r8 =>
    refine ⟨c, b, vs, us, rfl, rfl, g1.lst h5, hd1.x _ _ r7, line100 (by rw [h6.length, r8.length]; exact hz), ?_⟩
    exact l.nx _ _ _ _ (hd1.turn h1 h2 (g1.lst h5) ((h6.up g1.e0).append r8)) f
end

/-! ### {k: v, ..}[e], all written texts -/
theorem tPairs_c : ∀ (kvs : List (Key × V)) (σ : L2.St) (H : Hp) (Q : List (V × V) → Hp → Prop), Q (kvs.map fun kv => (kV kv.1, kv.2)) H → tPairs (kvs.map fun kv => (tC (kV kv.1), tC kv.2)) σ H Q
  | [], _, _, _, h => h
  | kv :: r, σ, H, Q, h => tPairs_c r σ H _ h
section
variable {X : Cx} {i e : Expr} {Ti Te : TD} {pos pos' : Pos}
@[reducible, simp] def dDictIx (kvs : List (Key × V)) (Ti : TD) : TD := fun ρ F => Ti ρ fun k => ∃ s v d, k = .str s ∧ valV (mergeK [] kvs) (.inr s) = some v ∧ (∀ K H0, Rep K H0 v d) ∧ F d
theorem de_dictIx {keys : List (Option Expr)} {values : List Expr} (kvs : List (Key × V)) (hu : X.A.units + 1 < cLine) (hp : PPs X pos keys values (kvs.map fun kv => (tC (kV kv.1), tC kv.2))) (hi : DE X i Ti)
    (hs : NoSl i := by exact fun _ _ => rfl) (hall : keys.all (·.isSome) = true := by rfl) (hl : keys.length = values.length := by rfl) (h0 : keys ≠ [] := by exact fun z => by cases z) (h15 : keys.length ≤ 15 := by decide) (k15 : kvs.length ≤ 15 := by decide) (nf : ¬ IsFK (mergeK [] kvs) := by rintro ⟨_, _, _, _, h⟩; revert h; simp [mergeK, putK, feedKvs]) :
    DE X (.Subscript (.Dict keys values pos) i pos') (dDictIx kvs Ti) := by
  obtain ⟨ti, pi, vi⟩ := hi
  refine ⟨_, pe_dget hu (pe_disp hp hall hl h0 h15) pi hs, fun β ρ H0 σ H F R hd h k => ?_⟩
  intro q hq
  refine tPairs_c kvs σ _ _ ⟨upd_same, kvs, rfl, k15, ?_⟩
  rw [upd_upd]
  have g : Gr X.K H0 H H0 (upd H q (.dK (mergeK [] kvs))) := Gr.newM hq
  refine vi β ρ H0 σ _ _ _ (hd.up (hd.x.trans (Ex.new hq)) g) h fun x w H1 H1' hx hd1 g1 r1 => ?_
  obtain ⟨s, v, d, rfl, ev, rd, f⟩ := hx
  cases r1
  obtain ⟨kvs', e1, _, e2⟩ := g1.dk q _ upd_same
  rw [e2 nf] at e1
  refine ⟨q, v, rfl, ?_, k d v H1 H1' f (hd.up hd1.x (g.trans g1)) (g.trans g1) (rd _ _)⟩
  have := DGet.k (k := .inr s) e1
  rw [ev] at this
  exact this
end
end DL

set_option Elab.async false
set_option linter.all false
set_option maxRecDepth 100000
set_option maxHeartbeats 4000000
namespace DL
open PySem PySem.Spec PyProof.Rows L2

/-! ### a tuple times n -/
theorem tuple_mul1 (l : Addr) (items : Array Value) (n : Nat) (dd : Option Addr) (sl : Array (Option Value)) (u : Tok) :
    Meets (Builtin.«tuple.__mul__» ⟨[.ref l, .int 1 u], []⟩) (fun _ R s => s.heap.get? l = some { cls := .type "tuple", dict := dd, data := .seq items n, slots := sl } ∧ R (.ok (.ret (Value.ref l))) s) :=
  .of_wp fun prog w A R s h => by
    obtain ⟨hp, g, d, tk, os⟩ := s
    obtain ⟨hl, h⟩ := h
    have f1 := AutoSeq1.idx_int
    wp_walk using wpAny_loadPart' hl
    exact ⟨_, rfl, h⟩
section
variable {X : Cx}
def rRepA (K : PySem.W.Frag) : R2 := fun x y H Q => ∃ l k xs, x = .ref l ∧ y = .int k ∧ SqT K H l xs ∧ xs ≠ [] ∧ 1 ≤ k ∧ k ≤ 1000 ∧ xs.length ≤ 1000 ∧ (k = 1 → Q (.ref l) H) ∧ (k ≠ 1 → ∀ p, H p = none → Q (.ref p) (upd H p (.tup (List.replicate k.toNat xs).flatten)))
theorem op_repA : OpR X (binaryOp .Mult) (rRepA X.K) := by
  intro pins s σ H x y v u Q I rx ry h
  obtain ⟨l, k, xs, rfl, rfl, hT, hne, h1, h2, hz, q1, q2⟩ := h
  by_cases e1 : k = 1
  · subst e1
    cases rx
    obtain ⟨t, rfl⟩ := ry
    obtain ⟨its, r, ⟨⟨cls, dd, data, sl⟩, ho, hc, n, hd⟩, hs⟩ := I.tuple hT
    simp only at hc hd
    subst hc hd
    refine wpAny_binaryOp_repeat_ref (T := "tuple") (U := "int") (by decide) ⟨_, ho, rfl⟩ (fun s' => typeIs_int s' 1 t) noFill_tuple_mul F.fills_int_mul F.slot_int_rmul repeat_tuple F.slot_int_index.lookup
      (call_meets F.slot_int_rmul (typeIs_int s 1 t) F.entry_int_rmul (F.args_int_rmul_2 _ _) (int_rmul_tuple 1 t l its.toArray n dd sl)
        ⟨ho, rfl, ⟨_, ho, rfl⟩, call_meets F.slot_tuple_mul ⟨_, ho, rfl⟩ F.entry_tuple_mul (F.args_tuple_mul_2 _ _) (tuple_mul1 l its.toArray n dd sl t) ⟨ho, ?_⟩⟩)
    exact ⟨.ref l, H, I, rfl, q1 rfl⟩
  · exact op_repT pins s σ H _ _ v u Q I rx ry ⟨l, k, xs, rfl, rfl, hT, hne, by omega, h2, hz, q2 e1⟩
@[reducible, simp] def fRepT : F2 := fun x y F => ∃ xs n, x = .tup xs ∧ y = .int n ∧ xs ≠ [] ∧ 1 ≤ n ∧ n ≤ 1000 ∧ xs.length ≤ 1000 ∧ F (.tup (List.replicate n.toNat xs).flatten)
theorem l_repT {K : PySem.W.Frag} : LR2 K (rRepA K) fRepT := fun β ρ H0 σ H x y dx dy F R hd rx ry ⟨xs, n, e1, e2, hn, h1, h2, hz, f⟩ k => by
  subst e1 e2
  cases rx with
  | @tup a vs _ h3 h4 =>
    cases ry
    refine ⟨a, n, vs, rfl, rfl, hd.x.sqT h3, fun e => hn ?_, h1, h2, by rw [h4.length]; exact hz, fun e => ?_, fun _ => new_tup hd (h4.rep _) f k⟩
    · subst e
      cases h4
      rfl
    · subst e
      have e1 : (List.replicate (Int.toNat 1) xs).flatten = xs := by simp
      rw [e1] at f
      exact k _ _ H0 H f hd (Gr.refl _ _ _) (.tup h3 h4)
end

/-! ### a tuple backwards -/
theorem adjust_rev (n : Nat) : Builtin.Slice.sliceAdjust none none (-1) (n : Int) = ((n : Int) - 1, -1) := by
  unfold Builtin.Slice.sliceAdjust
  simp
theorem places_rev (n : Nat) : Builtin.Slice.slicePlaces ((n : Int) - 1) (-1) (-1) = n := by
  unfold Builtin.Slice.slicePlaces
  have h1 : ¬ ((-1 : Int) > 0) := by omega
  simp only [h1, if_false]
  split <;> simp <;> omega
theorem fm_congr {α β : Type} {f g : α → Option β} : ∀ (l : List α), (∀ x ∈ l, f x = g x) → l.filterMap f = l.filterMap g
  | [], _ => rfl
  | a :: r, h => by
    rw [List.filterMap_cons, List.filterMap_cons, h a List.mem_cons_self, fm_congr r fun x hx => h x (List.mem_cons_of_mem _ hx)]
theorem pick_rev (xs : Array Value) : ((List.range xs.size).filterMap fun (k : Nat) => xs[(((xs.size : Nat) : Int) - 1 + (k : Int) * (-1)).toNat]?).toArray = xs.toList.reverse.toArray := by
  congr 1
  apply List.ext_getElem?
  intro i
  have e : (List.range xs.size).filterMap (fun (k : Nat) => xs[(((xs.size : Nat) : Int) - 1 + (k : Int) * (-1)).toNat]?) = (List.range xs.size).map fun k => xs.getD (xs.size - 1 - k) .none := by
    rw [← List.filterMap_eq_map]
    apply fm_congr
    intro k hk
    have hk' := List.mem_range.mp hk
    have e1 : (((xs.size : Nat) : Int) - 1 + (k : Int) * (-1)).toNat = xs.size - 1 - k := by omega
    rw [e1, Array.getElem?_eq_getElem (by omega)]
    show some _ = some (xs.getD (xs.size - 1 - k) Value.none)
    rw [Array.getD_eq_getD_getElem?, Array.getElem?_eq_getElem (by omega)]
    rfl
  rw [e, List.getElem?_map]
  by_cases hi : i < xs.size
  · rw [List.getElem?_eq_getElem (by rw [List.length_range]; exact hi), List.getElem_range, List.getElem?_reverse (by simpa using hi)]
    simp
    rw [Array.getElem?_eq_getElem (by omega)]
    rfl
  · rw [List.getElem?_eq_none (by rw [List.length_range]; omega), List.getElem?_eq_none (by simp; omega)]
    rfl
section
variable {prog : Program} {w : World} {A : Around} {E : Value → Shared → Prop} {s : Shared}
theorem sliceApplied_rev {sl : Addr} {vl vu vs : Value} {n : Nat} {Q : Int × Int × Nat → Shared → Prop} (hs : s.heap.IsSliceOf sl vl vu vs) (pl : IsPart vl none) (pu : IsPart vu none) (ps : IsPart vs (some (-1)))
    (h : Q ((n : Int) - 1, -1, n) s) : wpAny (model prog w) A (Builtin.Slice.sliceApplied (.ref sl) (pure (n : Int))) Q E s := by
  obtain ⟨os, hos, hcs, hds⟩ := id hs
  unfold Builtin.Slice.sliceApplied Builtin.Slice.sliceFields
  refine wpAny_bind (wpAny_bind (wpAny_field hos hds (x := vl) rfl (wpAny_bind (wpAny_field hos hds (x := vu) rfl (wpAny_bind (wpAny_field hos hds (x := vs) rfl (wpAny_pure ?_)))))))
  refine wpAny_bind (HT.slicePart_ ps ?_)
  show wpAny _ _ (if ((-1 : Int) == 0) = true then _ else _) _ _ s
  rw [if_neg (by decide)]
  refine wpAny_bind (HT.slicePart_ pl (wpAny_bind (HT.slicePart_ pu (wpAny_bind (wpAny_pure ?_)))))
  show wpAny _ _ (match Builtin.Slice.sliceAdjust none none (-1) (n : Int) with | (lo, hi) => pure (lo, (-1 : Int), Builtin.Slice.slicePlaces lo hi (-1))) _ _ s
  rw [adjust_rev n]
  show wpAny _ _ (pure ((n : Int) - 1, (-1 : Int), Builtin.Slice.slicePlaces ((n : Int) - 1) (-1) (-1))) _ _ s
  rw [places_rev]
  exact wpAny_pure h
theorem getItem_tuple_rev {t sl : Addr} {items : Array Value} {vl vu vs : Value} {Q : Value → Shared → Prop} (ht : IsTup s.heap t items) (hs : s.heap.IsSliceOf sl vl vu vs) (pl : IsPart vl none) (pu : IsPart vu none) (ps : IsPart vs (some (-1)))
    (h : Q (.ref s.heap.objs.size) { s with heap := s.heap.push { cls := .type "tuple", data := .seq items.toList.reverse.toArray } })
    (hsz : items.size ≤ sizeLine) : wpAny (model prog w) A (getItem (.ref t) (.ref sl)) Q E s := by
  have htake : sizeOk (.seq items.toList.reverse.toArray) := by
    show items.toList.reverse.toArray.size ≤ sizeLine
    rw [List.size_toArray, List.length_reverse, Array.length_toList]
    exact hsz
  obtain ⟨os, hos, hcs, hds⟩ := id hs
  have hTs : s.TypeIs (.ref sl) "slice" := ⟨os, hos, hcs⟩
  unfold getItem
  try with_reducible refine wpAny_holding ?_
  first | refine wpAny_bind (wpAny_pure ?_) | skip
  refine wpAny_bind (wpAny_sequenceKey ht.typeIs (by decide) ?_)
  refine wpAny_bind (wpAny_callSpecial?_slot (name := Str.ofString "__getitem__") ht.typeIs PyProof.Rows.slot_tuple_getitem
    (wpAny_call_entry PyProof.Rows.slot_tuple_getitem ht.typeIs entry_tuple_getitem ?_ (args_tuple_getitem _ _)))
  show wpAny _ _ (Builtin.Tuple.tupleItemsOf (.ref t) >>= _) _ _ s
  refine wpAny_bind (tupleItemsOf_ ht ?_)
  refine wpAny_bind (wpAny_typeOf hTs ?_)
  rw [if_pos (by decide)]
  refine wpAny_bind (sliceApplied_rev hs pl pu ps ?_)
  have hno : ¬ ((((items.size : Nat) : Int) - 1 == 0 && (-1 : Int) == 1 && items.size == items.size) = true) := by
    intro q
    rw [Bool.and_eq_true, Bool.and_eq_true] at q
    exact absurd q.1.2 (by decide)
  show wpAny _ _ (if (((items.size : Nat) : Int) - 1 == 0 && (-1 : Int) == 1 && items.size == items.size) = true then _ else _) _ _ s
  rw [if_neg hno, pick_rev]
  first
    | exact wpAny_bind (m := Builtin.Tuple.tupleExact _) (wpAny_newObj_type (wpAny_pure ⟨_, rfl, wpAny_pure h⟩) htake)
    | exact wpAny_bind (m := Builtin.Tuple.tupleExact _) (wpAny_newObj_type (wpAny_bind (wpAny_pure (wpAny_pure ⟨_, rfl, wpAny_pure h⟩))) htake)
    | exact wpAny_bind (wpAny_bind (m := Builtin.Tuple.tupleExact _) (wpAny_newObj_type (wpAny_pure (wpAny_pure ⟨_, rfl, wpAny_pure h⟩)) htake))
    | exact wpAny_bind (wpAny_bind (m := Builtin.Tuple.tupleExact _) (wpAny_newObj_type (wpAny_pure ⟨_, rfl, wpAny_pure h⟩) htake))
end
section
variable {X : Cx} {e : Expr} {te : TE} {Te : TD}
/-- the new tuple's items, as an object o of its address -/
def tRevG (K : PySem.W.Frag) (te : TE) (o : Addr → List V → HO) (W : List V → Prop) : TE := fun σ H Q => te σ H fun x H1 => ∃ a xs, x = .ref a ∧ SqT K H1 a xs ∧ W xs ∧ ∀ p, H1 p = none → Q (.ref p) (upd H1 p (o p xs.reverse))
theorem pe_revG {k : Nat} {p1 p2 p3 pos : Pos} {o : Addr → List V → HO} {W : List V → Prop} (he : PE X e te)
    (ho : ∀ (H : Hp) (h : Heap) (p : Addr) (xs : List V) (its : List Value), W xs → xs.length ≤ sizeLine → Vals xs.reverse its → h.get? p = some { cls := .type "tuple", data := .seq its.toArray } → ObjOk X.prog X.w H h p (o p xs.reverse)) :
    PE X (.Subscript e (.Slice none none (some (.UnaryOp .USub (.Constant (.int 1) k p1) p2)) p3) pos) (tRevG X.K te o W) := by
  refine ⟨fun pins s σ H Q I h => ?_⟩
  refine Subscript_ (thn (he.run pins s σ H _ I h) fun v s1 ⟨x, H1, I1, r1, q1⟩ => ?_)
  obtain ⟨a, xs, ex, hx, hW, q⟩ := q1
  subst ex
  cases r1
  have hst : PO X (some (.UnaryOp .USub (.Constant (.int 1) k p1) p2)) (tPart (tUn (rU fun i => .int (-i)) (tC (.int 1)))) := po_some (pe_un un_neg pe_int)
  refine wpAny_Slice (thn (po_none.run pins s1 σ H1 (fun o H2 => o = none ∧ H2 = H1) I1 ⟨rfl, rfl⟩) fun vl s2 ⟨l, H2, I2, pl, el, e2⟩ => ?_)
  subst el e2
  refine thn (po_none.run pins s2 σ H2 (fun o H3 => o = none ∧ H3 = H2) I2 ⟨rfl, rfl⟩) fun vu s3 ⟨u, H3, I3, pu, eu, e3⟩ => ?_
  subst eu e3
  refine thn (hst.run pins s3 σ H3 (fun o H4 => o = some (-1) ∧ H4 = H3) I3 ⟨1, rfl, -1, rfl, rfl, rfl⟩) fun vs s4 ⟨o', H4, I4, ps, eo, e4⟩ => ?_
  subst eo e4
  have I5 : Inv X pins σ H4 { s4 with heap := s4.heap.push { cls := .type "slice", data := .fields #[vl, vu, vs] } } := I4.kept (t' := s4.toks) fun b ob q => Heap.get?_push_of_some _ q
  obtain ⟨its, r, ht, hz⟩ := I5.tuple hx
  have hlen := r.length
  show wpAny (model X.prog X.w) X.A (subscriptTail e (.Slice none none (some (.UnaryOp .USub (.Constant (.int 1) k p1) p2)) p3) (.ref a) (.ref s4.heap.objs.size)) (EP X pins σ Q) X.xe { s4 with heap := s4.heap.push { cls := .type "slice", data := .fields #[vl, vu, vs] } }
  refine tail_any (ops := [.ref a, .ref s4.heap.objs.size]) ht.typeIs PyProof.Rows.slot_tuple_getitem.lookup ?_ (by with_unfolding_all rfl)
  refine getItem_tuple_rev ht (Heap.IsSliceOf.new _ vl vu vs) pl pu ps ?_ (by rw [List.size_toArray]; omega)
  refine ⟨.ref _, _, I5.laid (t' := s4.toks) (o := o _ xs.reverse) (fun b ob q => Heap.get?_push_of_some _ q) (Nat.le_refl _) ?_, rfl, q _ (I5.hok.fresh (Nat.le_refl _))⟩
  exact ho _ _ _ xs _ hW hz r.reverse (Heap.get?_push_size _ rfl)
@[reducible, simp] def dRevT (Te : TD) : TD := fun ρ F => Te ρ fun x => ∃ ds, x = .tup ds ∧ F (.tup ds.reverse)
theorem de_revT {k : Nat} {p1 p2 p3 pos : Pos} (he : DE X e Te) : DE X (.Subscript e (.Slice none none (some (.UnaryOp .USub (.Constant (.int 1) k p1) p2)) p3) pos) (dRevT Te) := by
  obtain ⟨t, p, v⟩ := he
  refine ⟨_, pe_revG (o := fun _ xs => .tup xs) (W := fun _ => True) p (fun H h q xs its _ hz r e => ⟨by rw [List.length_reverse]; exact hz, its, r, ⟨_, e, rfl, _, rfl⟩⟩), fun β ρ H0 σ H F R hd h k => ?_⟩
  refine v β ρ H0 σ H _ _ hd h fun x w H1 H1' hx hd1 g1 r1 => ?_
  obtain ⟨ds, rfl, f⟩ := hx
  cases r1 with
  | @tup a vs _ h1 h2 => exact ⟨a, vs, rfl, hd1.x.sqT h1, trivial, new_tup hd1 h2.reverse f fun d w H2 H2' f2 hd2 g2 r2 => k d w H2 H2' f2 hd2 (g1.trans g2) r2⟩
/-- .. of ints, told so that it may be asked for a place -/
@[reducible, simp] def dRevO (Te : TD) : TD := fun ρ F => Te ρ fun x => ∃ ns : List Int, x = .tup (ns.map D.int) ∧ F (.ord ns.reverse)
theorem de_revO {k : Nat} {p1 p2 p3 pos : Pos} (he : DE X e Te) : DE X (.Subscript e (.Slice none none (some (.UnaryOp .USub (.Constant (.int 1) k p1) p2)) p3) pos) (dRevO Te) := by
  obtain ⟨t, p, v⟩ := he
  let back : List V → List Int := fun xs => xs.map fun x => match x with | .int i => i | _ => 0
  have bk : ∀ ns : List Int, back (ns.map V.int) = ns := fun ns => by
    show (ns.map V.int).map _ = ns
    rw [List.map_map]
    exact List.map_id' ns
  refine ⟨_, pe_revG (o := fun p xs => ordO p (back xs)) (W := fun xs => ∃ ns : List Int, xs = ns.map V.int) p (fun H h q xs its ⟨ns, en⟩ hz r e => ?_), fun β ρ H0 σ H F R hd h k => ?_⟩
  · subst en
    rw [← List.map_reverse, bk]
    rw [← List.map_reverse] at r
    exact ⟨⟨its, r, _, e⟩, ⟨_, e⟩, fun h1 h2 ⟨its', r', n, e'⟩ st => ⟨its', r', n, st _ e'⟩⟩
  refine v β ρ H0 σ H _ _ hd h fun x w H1 H1' hx hd1 g1 r1 => ?_
  obtain ⟨ns, rfl, f⟩ := hx
  cases r1 with
  | @tup a vs _ h1 h2 =>
    have ev := reps_ints h2
    subst ev
    refine ⟨a, _, rfl, hd1.x.sqT h1, ⟨ns, rfl⟩, fun q hq => ?_⟩
    have g : Gr X.K H1 H1' (upd H1 q (ordO q ns.reverse)) (upd H1' q (ordO q ns.reverse)) := Gr.new hd1.x hq
    have e1 : back (ns.map V.int).reverse = ns.reverse := by rw [← List.map_reverse, bk]
    show R (.ref q) (upd H1' q (ordO q (back (ns.map V.int).reverse)))
    rw [e1]
    exact k _ _ _ _ f (hd1.up (Ex.new2 hd1.x hq) g) (g1.trans g) (.ord upd_same)
/-- tuple(range(n)) -/
@[reducible, simp] def dTupRg (Te : TD) : TD := fun ρ F => Te ρ fun x => ∃ n : Int, x = .int n ∧ 0 ≤ n ∧ n ≤ 1000 ∧ F (.tup ((List.range n.toNat).map fun (i : Nat) => D.int (i : Int)))
theorem de_tupRg {p p2 pos pos2 : Pos} (hc : X.calm = true) (hm : X.mg "tuple" = none) (hm2 : X.mg "range" = none) (he : DE X e Te) (hg : Gl X "tuple" := by rfl) (hg2 : Gl X "range" := by rfl)
    (na : starEach [e] X.env = (false, eval e X.env) :: starEach [] X.env := by rfl) (na2 : starEach [.Call (.Name "range" p2) [e] [] pos2] X.env = (false, eval (.Call (.Name "range" p2) [e] [] pos2) X.env) :: starEach [] X.env := by rfl) :
    DE X (.Call (.Name "tuple" p) [.Call (.Name "range" p2) [e] [] pos2] [] pos) (dTupRg Te) := by
  obtain ⟨t, pe, v⟩ := he
  refine ⟨_, pe_tupRg hc hg hm (prg_1 hg2 hm2 pe na) na2, fun β ρ H0 σ H F R hd h k => ?_⟩
  refine v β ρ H0 σ H _ _ hd h fun x w H1 H1' hx hd1 g1 r1 => ?_
  obtain ⟨n, rfl, n0, n1, f⟩ := hx
  cases r1
  refine ⟨n, rfl, RgOk.of_le (by omega) (by omega) (by omega) n0, ?_⟩
  have hr : Reps X.K H1 (rgV 0 n) ((List.range n.toNat).map fun (i : Nat) => D.int (i : Int)) := by
    unfold rgV
    rw [Int.sub_zero]
    generalize n.toNat = m
    induction (List.range m) with
    | nil => exact .nil
    | cons i r ih =>
      refine .cons ?_ ih
      show Rep X.K H1 (V.int (0 + (i : Nat))) (D.int (i : Int))
      rw [Int.zero_add]
      exact .int _
  exact new_tup hd1 hr f fun d w H2 H2' f2 hd2 g2 r2 => k d w H2 H2' f2 hd2 (g1.trans g2) r2
end
end DL

set_option Elab.async false
set_option linter.all false
set_option maxRecDepth 100000
set_option maxHeartbeats 4000000
namespace DL
open PySem PySem.Spec PyProof.Rows L2

/-! ### order.index(k) -/
section
variable {X : Cx} {e : Expr} {te : TE} {Te : TD}
theorem flat_ints (ns : List Int) : (ns.map V.int).all flatV = true := by
  rw [List.all_map]
  exact List.all_eq_true.mpr fun _ _ => rfl
def tOrdIx (i : Nat) (te : TE) : TE := fun σ H Q => ∃ (a : Addr) (ns : List Int), σ[i]? = some (some (.ref a)) ∧ H a = some (ordO a ns) ∧ te σ H fun y H1 => H1 a = some (ordO a ns) ∧ ∃ (k : Int) (j : Nat), y = .int k ∧ ns.length ≤ 1000 ∧ ns[j]? = some k ∧ (∀ m, m < j → ns[m]? ≠ some k) ∧ Q (.int (j : Nat)) H1
theorem pe_ordIx (i : Nat) {x : Str} {p apos cpos : Pos} (he : PE X e te) (hN : X.N[i]? = some x) (hv : Vis X.env.scope x) (hd : (x == ("__debug__" : Str)) = false) (hcd : (x == ("__classdict__" : Str)) = false)
    (hbase : attributeBase (.Name x p) "index" X.env (eval (.Name x p) X.env) = eval (.Name x p) X.env)
    (hfew : ((backTo cpos (starEach [e] X.env)).all (fun x => !x.1) && (backToKw cpos (keywordEach [] X.env)).all (fun x => x.1.isSome) && decide ([e].length + ([] : List Keyword).length + (if ([] : List Keyword).isEmpty then 0 else 1) < 30)) = true)
    (hline : (apos.endLine == cpos.line) = true) (hs : starEach [e] X.env = (false, eval e X.env) :: starEach [] X.env) (hplain : (backTo cpos (starEach [] X.env)).any (·.1) = false) :
    PE X (.Call (.Attribute (.Name x p) "index" apos) [e] [] cpos) (tOrdIx i te) := by
  refine ⟨fun pins s σ H Q I ⟨a, ns, h1, h2, h⟩ => ?_⟩
  refine wpAny_Call_method_late hbase hfew hline rfl (thn ((pe_var hN hv hd hcd).run pins s σ H (fun v H1 => v = .ref a ∧ H1 = H) I ⟨_, h1, rfl, rfl⟩) fun v s1 ⟨y, H1, I1, r1, e1, e2⟩ => ?_)
  subst e1 e2
  cases r1
  obtain ⟨⟨its, rv, n, hg⟩, _⟩ := I1.hok a _ h2
  refine ⟨"tuple", "tuple.index", PySem.F.plainAttrs_tuple, PySem.F.slot_tuple_index, PySem.F.type_tuple_index, ⟨_, hg, rfl⟩, fun b hb => ?_, ?_⟩
  · cases hb
    exact ⟨_, hg, rfl⟩
  have hA := (pa_cons he pa_nil hs).run cpos pins s1 σ H1 (fun vs H2 => ∃ y, vs = [y] ∧ H2 a = some (ordO a ns) ∧ ∃ (k : Int) (j : Nat), y = .int k ∧ ns.length ≤ 1000 ∧ ns[j]? = some k ∧ (∀ m, m < j → ns[m]? ≠ some k) ∧ Q (.int (j : Nat)) H2) I1 ?_
  · rw [hs] at hA ⊢
    refine Calls.callWith_builtin (by show (false || (backTo cpos (starEach [] X.env)).any (·.1)) = false; rw [hplain] <;> rfl) (Calls.evalArgs_plain ?_)
    refine thn hA fun us s2 ⟨vs, H2, I2, r2, y, ey, e3, k, j, ek, hlen, hy, hno, q⟩ => ?_
    subst ey ek
    obtain ⟨u, rfl, t, rfl⟩ := vals1 r2
    obtain ⟨⟨its, r, n, ho⟩, _⟩ := I2.hok a _ e3
    have hl : its.toArray.size = ns.length := by rw [List.size_toArray, ← r.length, List.length_map]
    have hj : j < its.toArray.size := by rw [hl]; exact (List.getElem?_eq_some_iff.mp hy).1
    have at' : ∀ (m : Nat) (hm : m < its.toArray.size), ∃ y t', ns[m]? = some y ∧ its.toArray[m] = Value.int y t' := fun m hm => by
      have hm' : m < ns.length := by rw [← hl]; exact hm
      obtain ⟨w, hw, t', hw'⟩ := r.get (i := m) (x := .int ns[m]) (by simp [hm'])
      refine ⟨ns[m], t', List.getElem?_eq_getElem hm', ?_⟩
      have e := (List.getElem?_eq_some_iff.mp hw).2
      rw [← hw', ← e]
      simp
    refine call_meets PySem.F.slot_tuple_index ⟨_, ho, rfl⟩ PySem.F.entry_tuple_index (PySem.F.args_tuple_index_2 _ _) (TI.tuple_indexAt a its.toArray n none #[] (.int k t) (eqU (.int k)) j hj ?_ ?_)
      ⟨ho, fun w hw => mem_eqAt (x := .int k) ⟨t, rfl⟩ rfl r (flat_ints ns) w (by simpa using hw), ⟨.int (j : Nat), H2, I2.tok _, ⟨_, rfl⟩, q⟩⟩
    · obtain ⟨y, t', h1, h2⟩ := at' j hj
      rw [h2]
      rw [hy] at h1
      cases h1
      show (k == k) = true
      exact beq_self_eq_true k
    · intro m hm hmj
      obtain ⟨y, t', h1, h2⟩ := at' m hm
      rw [h2]
      have : y ≠ k := fun e => hno m hmj (by rw [h1, e])
      show (y == k) = false
      exact beq_eq_false_iff_ne.mpr this
  · refine (?_ : te σ H1 _)
    have mono : ∀ R R' : VK, R = R' → te σ H1 R → te σ H1 R' := fun R R' e h => e ▸ h
    refine mono _ _ ?_ h
    funext y H2
    apply propext
    constructor
    · intro z
      exact ⟨y, rfl, z⟩
    · rintro ⟨y', e, z⟩
      cases e
      exact z
@[reducible, simp] def dOrdIx (i : Nat) (Te : TD) : TD := fun ρ F => ∃ ns, ρ[i]? = some (some (.val (.ord ns))) ∧ Te ρ fun y => ∃ (k : Int) (j : Nat), y = .int k ∧ ns.length ≤ 1000 ∧ ns[j]? = some k ∧ (∀ m, m < j → ns[m]? ≠ some k) ∧ F (.int (j : Nat))
theorem de_ordIx (i : Nat) {x : Str} {p apos cpos : Pos} (he : DE X e Te) (hN : X.N[i]? = some x := by rfl) (hv : Vis X.env.scope x := by first | exact Or.inl rfl | exact Or.inr (Or.inl rfl) | exact Or.inr (Or.inr rfl)) (hd : (x == ("__debug__" : Str)) = false := by decide)
    (hcd : (x == ("__classdict__" : Str)) = false := by decide) (hbase : attributeBase (.Name x p) "index" X.env (eval (.Name x p) X.env) = eval (.Name x p) X.env := by rfl)
    (hfew : ((backTo cpos (starEach [e] X.env)).all (fun x => !x.1) && (backToKw cpos (keywordEach [] X.env)).all (fun x => x.1.isSome) && decide ([e].length + ([] : List Keyword).length + (if ([] : List Keyword).isEmpty then 0 else 1) < 30)) = true := by rfl)
    (hline : (apos.endLine == cpos.line) = true := by rfl) (hs : starEach [e] X.env = (false, eval e X.env) :: starEach [] X.env := by rfl) (hplain : (backTo cpos (starEach [] X.env)).any (·.1) = false := by rfl) :
    DE X (.Call (.Attribute (.Name x p) "index" apos) [e] [] cpos) (dOrdIx i Te) := by
  obtain ⟨t, pe, v⟩ := he
  refine ⟨_, pe_ordIx i pe hN hv hd hcd hbase hfew hline hs hplain, fun β ρ H0 σ H F R hd ⟨ns, h1, h⟩ k => ?_⟩
  obtain ⟨w, h2, h3⟩ := hd.val i _ h1
  cases h3 with
  | @ord a _ h4 =>
    refine ⟨a, ns, h2, hd.x _ _ h4, v β ρ H0 σ H _ _ hd h fun y u H1 H1' hy hd1 g1 r1 => ⟨hd1.x _ _ (g1.e0 _ _ h4), ?_⟩⟩
    obtain ⟨kk, j, rfl, hl, e1, e2, f⟩ := hy
    cases r1
    exact ⟨kk, j, rfl, hl, e1, e2, k _ _ H1 H1' f hd1 g1 (.int _)⟩
/-! ### words.index(None), None in words -/
@[reducible, simp] def dIndexN (Te : TD) : TD := fun ρ F => Te ρ fun x => ∃ ds j, x = .lst ds ∧ plainD 64 (.lst ds) = true ∧ ds[j]? = some .non ∧ (∀ m z, m < j → ds[m]? = some z → isNon z = false) ∧ F (.int (j : Nat))
theorem eqv_non : ∀ d : D, plainD 64 d = true → PyData.eqv (pyD d) .none = isNon d
  | .non, _ => by simp [pyD, PyData.eqv, isNon]
  | .bl _, _ => by simp [pyD, PyData.eqv, isNon]
  | .int _, _ => by simp [pyD, PyData.eqv, isNon]
  | .str _, _ => by simp [pyD, PyData.eqv, isNon]
  | .tup _, _ => by simp [pyD, PyData.eqv, isNon]
  | .lst _, _ => by simp [pyD, PyData.eqv, isNon]
  | .ord _, h => by simp [plainD] at h
  | .feed, h => by simp [plainD] at h
theorem pyDs_get : ∀ (ds : List D) (i : Nat), (pyDs ds)[i]? = (ds[i]?).map pyD
  | [], i => by simp [pyDs]
  | d :: ds, 0 => by simp [pyDs]
  | d :: ds, i + 1 => by simpa [pyDs] using pyDs_get ds i
mutual
theorem plainD_mono : ∀ (n m : Nat) (d : D), n ≤ m → plainD n d = true → plainD m d = true
  | _, _, .non, _, _ => by simp [plainD]
  | _, _, .bl _, _, _ => by simp [plainD]
  | _, _, .int _, _, _ => by simp [plainD]
  | _, _, .str x, _, h => by simpa [plainD] using h
  | 0, _, .tup _, _, h => by simp [plainD] at h
  | 0, _, .lst _, _, h => by simp [plainD] at h
  | n + 1, 0, .tup _, l, _ => by omega
  | n + 1, 0, .lst _, l, _ => by omega
  | n + 1, m + 1, .tup ds, l, h => by
    simp only [plainD] at h ⊢
    exact plainDs_mono n m ds (by omega) h
  | n + 1, m + 1, .lst ds, l, h => by
    simp only [plainD] at h ⊢
    exact plainDs_mono n m ds (by omega) h
  | _, _, .ord _, _, h => by simp [plainD] at h
  | _, _, .feed, _, h => by simp [plainD] at h
theorem plainDs_mono : ∀ (n m : Nat) (ds : List D), n ≤ m → plainDs n ds = true → plainDs m ds = true
  | _, _, [], _, _ => by simp [plainDs]
  | n, m, d :: ds, l, h => by
    simp only [plainDs, Bool.and_eq_true] at h ⊢
    exact ⟨plainD_mono n m d l h.1, plainDs_mono n m ds l h.2⟩
end
theorem plainDs_get : ∀ {n : Nat} {ds : List D} {i : Nat} {d : D}, plainDs n ds = true → ds[i]? = some d → plainD n d = true
  | _, [], _, _, _, e => by simp at e
  | n, d :: ds, 0, _, h, e => by
    simp only [plainDs, Bool.and_eq_true] at h
    simp at e
    subst e
    exact h.1
  | n, d :: ds, i + 1, _, h, e => by
    simp only [plainDs, Bool.and_eq_true] at h
    exact plainDs_get h.2 (by simpa using e)
theorem de_indexN {x : Expr} {apos cpos p : Pos} {j : Nat} (hu : X.A.units + 65 < cLine) (he : DE X x Te) (hbase : attributeBase x "index" X.env (eval x X.env) = eval x X.env := by rfl)
    (hfew : ((backTo cpos (starEach [.Constant .none j p] X.env)).all (fun x => !x.1) && (backToKw cpos (keywordEach [] X.env)).all (fun x => x.1.isSome) && decide ([Expr.Constant .none j p].length + ([] : List Keyword).length + (if ([] : List Keyword).isEmpty then 0 else 1) < 30)) = true := by rfl)
    (hline : (apos.endLine == cpos.line) = true := by rfl) (hs : starEach [.Constant .none j p] X.env = (false, eval (.Constant .none j p) X.env) :: starEach [] X.env := by rfl) (hplain : (backTo cpos (starEach [] X.env)).any (·.1) = false := by rfl) :
    DE X (.Call (.Attribute x "index" apos) [.Constant .none j p] [] cpos) (dIndexN Te) := by
  obtain ⟨t, pe, v⟩ := he
  refine ⟨_, pe_bm PySem.F.plainAttrs_list PySem.F.slot_list_index PySem.F.type_list_index (mt_indexD hu) pe (pa_cons pe_non pa_nil hs) hbase hfew hline hs hplain, fun β ρ H0 σ H F R hd h k => ?_⟩
  refine v β ρ H0 σ H _ _ hd h fun y u H1 H1' hy hd1 g1 r1 => ?_
  obtain ⟨ds, i, rfl, hp, hi, hno, f⟩ := hy
  have hp' : plainDs 63 ds = true := by simpa [plainD] using hp
  have dp := plain_dp hd1.x 64 _ u hp r1
  cases r1 with
  | @lst a vs _ h1 h2 =>
    refine ⟨.inl ⟨rfl, _, SqL.of (hd1.x _ _ h1)⟩, a, .non, .none, pyDs ds, i, .none, rfl, rfl, ?_, .non, plain_shaped hp, by decide, ?_, by simp [PyData.eqv], ?_, k _ _ H1 H1' f hd1 g1 (.int _)⟩
    · simpa only [pyD] using dp
    · rw [pyDs_get, hi]
      simp [pyD]
    · intro m z hm hz
      rw [pyDs_get] at hz
      cases e : ds[m]? with
      | none =>
        rw [e] at hz
        cases hz
      | some d =>
        rw [e] at hz
        cases hz
        rw [eqv_non d (plainD_mono 63 64 d (by omega) (plainDs_get hp' e))]
        exact hno m d hm e
@[simp] def flatD : D → Bool
  | .non => true
  | .str _ => true
  | _ => false
/-- None in words -/
@[reducible, simp] def fInN : F2 := fun x y F => ∃ ds, x = .non ∧ y = .lst ds ∧ ds.all flatD = true ∧ F (.bl (ds.any isNon))
theorem reps_flat {K : PySem.W.Frag} {H0 : Hp} : ∀ {vs : List V} {ds : List D}, Reps K H0 vs ds → ds.all flatD = true → vs.all flatV = true ∧ inV .non vs = ds.any isNon
  | _, _, .nil, _ => ⟨rfl, rfl⟩
  | v :: vs, d :: ds, .cons r t, h => by
    rw [List.all_cons, Bool.and_eq_true] at h
    obtain ⟨h1, h2⟩ := reps_flat t h.2
    have e2 : vs.any (fun y => eqV y .non) = ds.any isNon := h2
    show ((v :: vs).all flatV = true) ∧ ((v :: vs).any (fun y => eqV y .non) = (d :: ds).any isNon)
    rw [List.all_cons, List.any_cons, List.any_cons, h1, e2]
    cases r <;> first | (exact ⟨rfl, rfl⟩) | (exact absurd h.1 (by simp [flatD]))
theorem l_inN {K : PySem.W.Frag} : LR2 K (rIn K false) fInN := fun β ρ H0 σ H x y dx dy F R hd rx ry ⟨ds, e1, e2, hf, f⟩ k => by
  subst e1 e2
  cases rx
  cases ry with
  | @lst a vs _ h1 h2 =>
    obtain ⟨q1, q2⟩ := reps_flat h2 hf
    refine ⟨a, vs, rfl, .inl (SqL.of (hd.x _ _ h1)), rfl, q1, ?_⟩
    show R (.bl (inV .non vs)) H
    rw [q2]
    exact k _ _ H0 H f hd (Gr.refl _ _ _) (.bl _)
end
end DL

set_option Elab.async false
set_option linter.all false
set_option maxRecDepth 100000
set_option maxHeartbeats 4000000
namespace DL
open PySem PySem.Spec PyProof.Rows L2

/-! ### zip of lists and tuples, in any mix -/
def SqK (b : Bool) (K : PySem.W.Frag) (H : Hp) (a : Addr) (xs : List V) : Prop := if b = true then SqL K H a xs else SqT K H a xs
def SeqAtH (b : Bool) (h : Heap) (l : Addr) (items : Array Value) : Prop := if b = true then h.IsList l items else h.IsTuple l items
def ItAtH (b : Bool) (h : Heap) (it l : Addr) (i : Nat) : Prop := if b = true then h.IsListIter it l i else h.IsTupleIter it l i
def itObj (b : Bool) (l : Addr) : Obj := if b = true then { cls := .type "list_iterator", data := .fields #[.ref l, .int 0 0] } else { cls := .type "tuple_iterator", data := .fields #[.ref l, .int 0 0] }
theorem SqK.at {X : Cx} {pins : List (Addr × Obj)} {σ : L2.St} {H : Hp} {s : Shared} {b : Bool} {a : Addr} {xs : List V} (I : Inv X pins σ H s) (h : SqK b X.K H a xs) : ∃ its : List Value, Vals xs its ∧ SeqAtH b s.heap a its.toArray := by
  cases b with
  | true =>
    obtain ⟨its, rv, p, _⟩ := I.list (show SqL X.K H a xs from h)
    exact ⟨its, rv, p.isList⟩
  | false =>
    obtain ⟨its, rv, p, _⟩ := I.tuple (show SqT X.K H a xs from h)
    exact ⟨its, rv, (show s.heap.IsTuple a its.toArray from p)⟩
theorem draws_k {prog : Program} {w : World} {A : Around} (hh : A.handled = none) (b : Bool) (it l : Addr) (hne : l ≠ it) (items : Array Value) :
    Draws prog w A it [it, l] items.size (fun i v => items[i]? = some v) (fun i h => ItAtH b h it l i ∧ SeqAtH b h l items) := by
  cases b with
  | true => exact Draws.list hh it l hne items
  | false => exact Draws.tuple hh it l hne items
theorem begins_k (b : Bool) (l : Addr) (items : Array Value) : Begins (.ref l) (itObj b l) fun h => SeqAtH b h l items := by
  cases b with
  | true => exact begins_list l items
  | false => exact begins_tuple l items
theorem ItAtH.new {b : Bool} {h : Heap} {it l : Addr} (e : h.get? it = some (itObj b l)) : ItAtH b h it l 0 := by
  cases b with
  | true => exact ⟨_, e, rfl, rfl⟩
  | false => exact ⟨_, e, rfl, rfl⟩
theorem ItAtH.there {b : Bool} {h : Heap} {it l : Addr} {i : Nat} (x : ItAtH b h it l i) : ∃ o, h.get? it = some o ∧ o.data = .fields #[.ref l, .int i 0] := by
  cases b with
  | true =>
    obtain ⟨o, e, _, d⟩ := (show h.IsListIter it l i from x)
    exact ⟨o, e, d⟩
  | false =>
    obtain ⟨o, e, _, d⟩ := (show h.IsTupleIter it l i from x)
    exact ⟨o, e, d⟩
theorem ItAtH.at {b : Bool} {h h' : Heap} {it l : Addr} {i : Nat} (x : ItAtH b h it l i) (k : ∀ o, h.get? it = some o → h'.get? it = some o) : ItAtH b h' it l i := by
  cases b with
  | true => exact (show h.IsListIter it l i from x).at k
  | false => exact (show h.IsTupleIter it l i from x).at k
theorem SeqAtH.lt {b : Bool} {h : Heap} {l : Addr} {items : Array Value} (x : SeqAtH b h l items) : l < h.objs.size := by
  cases b with
  | true =>
    obtain ⟨o, e, _⟩ := (show h.IsList l items from x)
    exact Heap.lt_size e
  | false =>
    obtain ⟨o, e, _⟩ := (show h.IsTuple l items from x)
    exact Heap.lt_size e
def ItzG (K : PySem.W.Frag) (ka kb : Bool) (a b : Addr) (xs ys : List V) : It :=
  ⟨fun i H => SqK ka K H a xs ∧ SqK kb K H b ys ∧ i < xs.length ∧ i < ys.length,
    fun i H v H' => ∃ T x y, v = .ref T ∧ H T = none ∧ H' = upd H T (.tup [x, y]) ∧ xs[i]? = some x ∧ ys[i]? = some y,
    fun i H => SqK ka K H a xs ∧ SqK kb K H b ys ∧ i = min xs.length ys.length⟩
structure Sep5 (z TI TO i1 i2 a b : Addr) : Prop where
  s : ZipSep2 z TI TO i1 i2 [i1, a] [i2, b]
theorem turn_zipG {P : Program} {w : World} {K : PySem.W.Frag} {elts : List Expr} {kk : Nat} {tpos : Pos} {a b z TI TO i1 i2 : Addr} {ka kb : Bool} {xs ys : List V} (S : ZipSep2 z TI TO i1 i2 [i1, a] [i2, b]) (n12 : i1 ≠ i2) (na : a ≠ i1) (nb : b ≠ i2) :
    Turn P w K (.Tuple elts kk tpos) (ItzG K ka kb a b xs ys) [z, TI, TO, i1, i2] z (fun i h => IsZip h z TI TO .none ∧ IsTupOf2 h TI (.ref i1) (.ref i2) ∧ (∃ x y, IsTupOf2 h TO x y) ∧ ItAtH ka h i1 a i ∧ ItAtH kb h i2 b i) where
  mem := by simp
  obj := fun i h st c hc => by
    obtain ⟨hz, hTI, ⟨x, y, hTO⟩, h1, h2⟩ := st
    obtain ⟨o1, e1, d1⟩ := h1.there
    obtain ⟨o2, e2, d2⟩ := h2.there
    have e' : c = z ∨ c = TI ∨ c = TO ∨ c = i1 ∨ c = i2 := by simpa using hc
    rcases e' with q | q | q | q | q
    · rw [q]; exact ⟨_, hz, fun v q => nomatch q⟩
    · rw [q]; exact ⟨_, hTI, fun v q => nomatch q⟩
    · rw [q]; exact ⟨_, hTO, fun v q => nomatch q⟩
    · rw [q]; exact ⟨o1, e1, fun v q => by rw [d1] at q; cases q⟩
    · rw [q]; exact ⟨o2, e2, fun v q => by rw [d2] at q; cases q⟩
  keep := fun i h h' st k => by
    obtain ⟨hz, hTI, ⟨x, y, hTO⟩, h1, h2⟩ := st
    exact ⟨k z (by simp) _ hz, k TI (by simp) _ hTI, ⟨x, y, k TO (by simp) _ hTO⟩, h1.at fun o q => k i1 (by simp) o q, h2.at fun o q => k i2 (by simp) o q⟩
  item := by
    intro X hP hw hK hc i pins s σ H E I hf st hg
    subst hP hw hK
    obtain ⟨hz, hTI, ⟨x0, y0, hTO⟩, h1, h2⟩ := st
    obtain ⟨hqx, hqy, hx, hy⟩ := hg
    obtain ⟨its, rv, p⟩ := SqK.at I hqx
    obtain ⟨its2, rv2, p2⟩ := SqK.at I hqy
    have l1 := rv.length
    have l2 := rv2.length
    have hzl : z < s.heap.objs.size := Heap.lt_size hz
    have hh : X.A.in1.handled = none := I.ok.hd hc
    refine wpAny_pyNext_zipD2_item S (draws_k hh ka i1 a na its.toArray) (draws_k hh kb i2 b nb its2.toArray) hz hTI hTO ⟨h1, p⟩ ⟨h2, p2⟩ (by simpa using by omega) (by simpa using by omega) fun u u2 h' tk hu hu2 z' TO' st1 st2 hT hsz hk => ?_
    refine ⟨_, rfl, wpAny_letOwnedTupleGo_zip (s := { s with heap := h', toks := tk }) z' fun h'' z'' sb => ?_⟩
    have hT2 : h''.get? s.heap.objs.size = some { cls := .type "tuple", data := .seq #[u, u2] } := (sb.2 _ (Nat.ne_of_gt hzl)).trans hT
    obtain ⟨x, ex⟩ : ∃ x, xs[i]? = some x := ⟨xs[i], List.getElem?_eq_getElem hx⟩
    obtain ⟨y, ey⟩ : ∃ y, ys[i]? = some y := ⟨ys[i], List.getElem?_eq_getElem hy⟩
    obtain ⟨v1, g1, ru⟩ := rv.get ex
    obtain ⟨v2, g2, ru2⟩ := rv2.get ey
    have e1 : v1 = u := by
      have q : its.toArray[i]? = some v1 := by simpa using g1
      rw [hu] at q
      exact (Option.some.inj q).symm
    have e2 : v2 = u2 := by
      have q : its2.toArray[i]? = some v2 := by simpa using g2
      rw [hu2] at q
      exact (Option.some.inj q).symm
    subst e1 e2
    have new : ObjOk X.prog X.w (upd H s.heap.objs.size (.tup [x, y])) h'' s.heap.objs.size (.tup [x, y]) :=
      ⟨by show 2 ≤ sizeLine; decide, [v1, v2], .cons ru (.cons ru2 .nil), ⟨_, hT2, rfl, _, rfl⟩⟩
    have I1 : Inv X pins σ (upd H s.heap.objs.size (.tup [x, y])) { s with heap := h'', toks := tk } :=
      I.turnedNew (t' := tk) (ch := [z, TI, TO, i1, i2]) (fun c o hb q => (sb.2 c (fun q' => hb (by simp [q']))).trans (hk c o (fun q' => hb (by simp [q'])) (fun q' => hb (by simp [q'])) (fun q' => hb (by simp [q'])) (fun q' => hb (by simp [q'])) q)) hf (Nat.le_refl _) new
    have ki : ∀ c o, c ≠ z → h'.get? c = some o → h''.get? c = some o := fun c o nz q => (sb.2 c nz).trans q
    refine ⟨.ref s.heap.objs.size, _, I1, rfl, ⟨_, x, y, rfl, I.hok.fresh (Nat.le_refl _), rfl, ex, ey⟩, ⟨z'', ?_, ⟨v1, v2, ?_⟩, ?_, ?_⟩, fun c hcm => ?_⟩
    · exact ki _ _ S.TIz (hk _ _ S.TIz S.TITO S.TIi1 S.TIi2 hTI)
    · exact ki _ _ S.TOz TO'
    · exact st1.1.at fun o q => ki _ o S.zi1.symm q
    · exact st2.1.at fun o q => ki _ o S.zi2.symm q
    · obtain ⟨_, e1, _⟩ := h1.there
      obtain ⟨_, e2, _⟩ := h2.there
      have hlt : c < s.heap.objs.size := by
        have e' : c = z ∨ c = TI ∨ c = TO ∨ c = i1 ∨ c = i2 := by simpa using hcm
        rcases e' with q | q | q | q | q
        · rw [q]; exact hzl
        · rw [q]; exact Heap.lt_size hTI
        · rw [q]; exact Heap.lt_size hTO
        · rw [q]; exact Heap.lt_size e1
        · rw [q]; exact Heap.lt_size e2
      rw [upd_ne (Nat.ne_of_lt hlt)]
      exact (hf c hcm).1
  done := by
    intro X hP hw hK hc i pins s σ H E I hf st hg
    subst hP hw hK
    obtain ⟨hz, hTI, ⟨x0, y0, hTO⟩, h1, h2⟩ := st
    obtain ⟨hqx, hqy, hi⟩ := hg
    obtain ⟨its, rv, p⟩ := SqK.at I hqx
    obtain ⟨its2, rv2, p2⟩ := SqK.at I hqy
    have l1 := rv.length
    have l2 := rv2.length
    have hh : X.A.in1.handled = none := I.ok.hd hc
    refine wpAny_pyNext_zipD2_end S (draws_k hh ka i1 a na its.toArray) (draws_k hh kb i2 b nb its2.toArray) hz hTI hTO ⟨h1, p⟩ ⟨h2, p2⟩ (by simp; omega) (by simp; omega) (by simp; omega) fun h' tk hk => ⟨rfl, I.turnedL (t' := tk) (ch := [z, TI, TO, i1, i2]) (fun c o hb q =>
      hk c o (fun q' => hb (by simp [q'])) (fun q' => hb (by simp [q'])) (fun q' => hb (by simp [q'])) (fun q' => hb (by simp [q'])) q) hf⟩
  self := fun A i s Q E st h => wpAny_pyIter_zip st.1 h
def iZipG (K : PySem.W.Frag) (ka kb : Bool) (ta : TA) : TI := fun σ H R => ta σ H fun vs H1 => ∃ a b xs ys, vs = [.ref a, .ref b] ∧ SqK ka K H1 a xs ∧ SqK kb K H1 b ys ∧ R (ItzG K ka kb a b xs ys) H1
theorem pi_zipG {X : Cx} {e e2 : Expr} {ta : TA} {p pos tpos : Pos} {elts : List Expr} {kk : Nat} (ka kb : Bool) (hg : Gl X "zip") (hm : X.mg "zip" = none) (ha : PA X [e, e2] ta)
    (hs : starEach [e, e2] X.env = (false, eval e X.env) :: starEach [e2] X.env := by rfl) (hpl : (backTo pos (starEach [e2] X.env)).any (·.1) = false := by rfl) :
    PI X (.Tuple elts kk tpos) (.Call (.Name "zip" p) [e, e2] [] pos) (iZipG X.K ka kb ta) := by
  refine ⟨fun pins s σ H R I h => ?_⟩
  refine Call_ (ld_blt I hg hm PyProof.Rows.boot_zip (PyProof.Rows.callWith_type1 (thn (ha.run pos pins s σ H _ I h) fun us s1 ⟨vs, H1, I1, r1, q1⟩ => ?_) hs hpl))
  obtain ⟨a, b, xs, ys, ex, hqx, hqy, q⟩ := q1
  subst ex
  cases r1 with
  | cons r rr =>
    cases rr with
    | cons r' rr =>
      cases rr
      cases r
      cases r'
      have fresh5 : ∀ c, c ∈ [s1.heap.objs.size + 4, s1.heap.objs.size + 2, s1.heap.objs.size + 3, s1.heap.objs.size, s1.heap.objs.size + 1] → FpOk X pins H1 c := fun c hcm => by
        have e' : c = s1.heap.objs.size + 4 ∨ c = s1.heap.objs.size + 2 ∨ c = s1.heap.objs.size + 3 ∨ c = s1.heap.objs.size ∨ c = s1.heap.objs.size + 1 := by simpa using hcm
        have hle : s1.heap.objs.size ≤ c := by
          rcases e' with z | z | z | z | z
          · rw [z]; exact Nat.le_add_right _ _
          · rw [z]; exact Nat.le_add_right _ _
          · rw [z]; exact Nat.le_add_right _ _
          · rw [z]; exact Nat.le_refl _
          · rw [z]; exact Nat.le_add_right _ _
        exact I1.fpOk hle (I1.hok.fresh hle)
      obtain ⟨its, rv, p1⟩ := SqK.at I1 hqx
      obtain ⟨its2, rv2, p2⟩ := SqK.at I1 hqy
      have la := p1.lt
      have lb := p2.lt
      refine zip_begins2 (begins_k ka a its.toArray) (begins_k kb b its2.toArray) p1 p2 fun h' hz hTI hTO h1 h2 hsz hk => wpAny_pyIter_zip hz ?_
      have I2 : Inv X pins σ H1 { s1 with heap := h' } := I1.kept (t' := s1.toks) hk
      have S : ZipSep2 (s1.heap.objs.size + 4) (s1.heap.objs.size + 2) (s1.heap.objs.size + 3) s1.heap.objs.size (s1.heap.objs.size + 1) [s1.heap.objs.size, a] [s1.heap.objs.size + 1, b] :=
        zip_sep2 (fp1 := [a]) (fp2 := [b]) (fun c hc => by rw [List.mem_singleton.mp hc]; exact la) (fun c hc => by rw [List.mem_singleton.mp hc]; exact lb)
      refine ⟨s1.heap.objs.size + 4, [s1.heap.objs.size + 4, s1.heap.objs.size + 2, s1.heap.objs.size + 3, s1.heap.objs.size, s1.heap.objs.size + 1], _, _, H1, rfl, I2, turn_zipG S (Nat.ne_of_lt (Nat.lt_succ_self _)) (Nat.ne_of_lt la) (Nat.ne_of_lt (Nat.lt_succ_of_lt lb)),
        ⟨hz, hTI, ⟨_, _, hTO⟩, ItAtH.new h1, ItAtH.new h2⟩, fresh5, q⟩
/-! ### .. over data -/
def kindItems (b : Bool) (d : D) : Option (List D) := match b, d with
  | true, .lst ds => some ds
  | false, .tup ds => some ds
  | _, _ => none
def zipD (ds es : List D) : List D := (ds.zip es).map fun p => .tup [p.1, p.2]
section
variable {X : Cx} {e e2 : Expr} {U : TDA} {p pos tpos : Pos} {elts : List Expr} {kk : Nat}
theorem kind_sq {K : PySem.W.Frag} {H0 H : Hp} {b : Bool} {v : V} {d : D} {ds : List D} (x : Ex H0 H) (r : Rep K H0 v d) (h : kindItems b d = some ds) : ∃ a vs, v = .ref a ∧ (∀ H', Ex H0 H' → SqK b K H' a vs) ∧ Reps K H0 vs ds := by
  cases b with
  | true =>
    cases r with
    | @lst a vs _ h1 h2 => cases h; exact ⟨a, vs, rfl, fun H' x' => SqL.of (x' _ _ h1), h2⟩
    | _ => cases h
  | false =>
    cases r with
    | @tup a vs _ h1 h2 => cases h; exact ⟨a, vs, rfl, fun H' x' => x'.sqT h1, h2⟩
    | _ => cases h
@[reducible, simp] def iZip (ka kb : Bool) (U : TDA) : TDI := fun ρ F => U ρ fun xs => ∃ d d2 ds es, xs = [d, d2] ∧ kindItems ka d = some ds ∧ kindItems kb d2 = some es ∧ F (zipD ds es)
theorem walkd_zip {K : PySem.W.Frag} {H0 : Hp} {ka kb : Bool} {a b : Addr} {vs ws : List V} {ds es : List D} (ha : ∀ H', Ex H0 H' → SqK ka K H' a vs) (hb : ∀ H', Ex H0 H' → SqK kb K H' b ws) (r : Reps K H0 vs ds) (r2 : Reps K H0 ws es) : WalkD K (ItzG K ka kb a b vs ws) (zipD ds es) H0 := by
  have hl : (zipD ds es).length = min vs.length ws.length := by
    unfold zipD
    rw [List.length_map, List.length_zip, r.length, r2.length]
  refine ⟨fun H => SqK ka K H a vs ∧ SqK kb K H b ws, fun i H v H' => ∃ T x y, v = .ref T ∧ H T = none ∧ H' = upd H T (.tup [x, y]) ∧ vs[i]? = some x ∧ ws[i]? = some y, ⟨fun i H hi g => ⟨g.1, g.2, by omega, by omega⟩, fun H g => ⟨g.1, g.2, hl⟩, fun _ _ _ _ _ _ y => y⟩, fun H x => ⟨ha H x, hb H x⟩, fun i d H0' H v H'' x0 x1 hd y => ?_⟩
  obtain ⟨T, x, y, rfl, hT, rfl, ex, ey⟩ := y
  obtain ⟨d1, e1, q1⟩ := r.getV ex
  obtain ⟨d2, e2, q2⟩ := r2.getV ey
  have ed : d = .tup [d1, d2] := by
    unfold zipD at hd
    rw [List.getElem?_map] at hd
    have : (ds.zip es)[i]? = some (d1, d2) := by
      rw [List.getElem?_zip_eq_some]
      exact ⟨e1, e2⟩
    rw [this] at hd
    exact (Option.some.inj hd).symm
  subst ed
  have g : Gr K H0' H (upd H0' T (.tup [x, y])) (upd H T (.tup [x, y])) := Gr.new x1 hT
  exact ⟨_, Ex.new2 x1 hT, g, .tup (.inl (.inl upd_same)) (.cons ((q1.up x0).up g.e0) (.cons ((q2.up x0).up g.e0) .nil))⟩
theorem di_zip (ka kb : Bool) (hm : X.mg "zip" = none) (ha : DA X [e, e2] U) (hg : Gl X "zip" := by rfl) (hs : starEach [e, e2] X.env = (false, eval e X.env) :: starEach [e2] X.env := by rfl) (hpl : (backTo pos (starEach [e2] X.env)).any (·.1) = false := by rfl) :
    DI X (.Tuple elts kk tpos) (.Call (.Name "zip" p) [e, e2] [] pos) (iZip ka kb U) := by
  obtain ⟨u, pu, v⟩ := ha
  refine ⟨_, pi_zipG ka kb hg hm pu hs hpl, fun β ρ H0 σ H F R hd h k => v β ρ H0 σ H _ _ hd h fun xs ws H1 H1' f _ hd1 g1 r1 => ?_⟩
  obtain ⟨d, d2, ds, es, rfl, h1, h2, f⟩ := f
  cases r1 with
  | cons ra rr =>
    cases rr with
    | cons rb rr =>
      cases rr
      obtain ⟨a, vs, rfl, qa, r3⟩ := kind_sq hd1.x ra h1
      obtain ⟨b, ws, rfl, qb, r4⟩ := kind_sq hd1.x rb h2
      exact ⟨a, b, vs, ws, rfl, qa _ hd1.x, qb _ hd1.x, k _ _ H1 H1' f hd1 g1 (walkd_zip qa qb r3 r4)⟩
end
end DL

set_option Elab.async false
set_option linter.all false
set_option maxRecDepth 100000
set_option maxHeartbeats 4000000
namespace DL
open PySem PySem.Spec PyProof.Rows L2 PySem.W
/-! ### zip of two tuples, its last tuple still held -/
section
variable {prog : Program} {w : World} {A : Around} {E : Value → Shared → Prop} {s : Shared}
theorem zipT_item_held {z TI TO T i1 i2 l1 l2 : Addr} {f : Bool} {oT : Obj} {k1 k2 : Nat} {xs ys : Array Value} {x y : Value} {Q : Value → Shared → Prop} (D : ZipApart z TI TO i1 i2 l1 l2)
    (hz : IsZipHeld s.heap z TI TO T f) (hT : s.heap.get? T = some oT) (hTI : IsPair s.heap TI (.ref i1) (.ref i2))
    (h1 : s.heap.IsTupleIter i1 l1 k1) (h2 : s.heap.IsTupleIter i2 l2 k2) (hl1 : s.heap.IsTuple l1 xs) (hl2 : s.heap.IsTuple l2 ys) (hx : xs[k1]? = some x) (hy : ys[k2]? = some y)
    (hQ : ∀ h', IsZipHeld h' z TI TO T true → h'.IsTupleIter i1 l1 (k1 + 1) → h'.IsTupleIter i2 l2 (k2 + 1) → IsPair h' s.heap.objs.size x y → h'.objs.size = s.heap.objs.size + 1 →
      (∀ c o, c ≠ z → c ≠ i1 → c ≠ i2 → s.heap.get? c = some o → h'.get? c = some o) → Q (.ref s.heap.objs.size) { s with heap := h' }) :
    wpAny (model prog w) A (Builtin.«zip.__next__» ⟨[.ref z], []⟩) (fun fin s' => ∃ v, fin = .done (.ret v) ∧ Q v s') E s := by
  show wpAny _ _ (field (.ref z) 2 >>= _) _ _ _
  refine wpAny_bind (wpAny_field hz rfl (x := .bool false) rfl ?_)
  show wpAny _ _ (field (.ref z) 3 >>= _) _ _ _
  refine wpAny_bind (wpAny_field hz rfl (x := .ref TI) rfl ?_)
  refine wpAny_bind (wpAny_seqItems hTI rfl ?_)
  show wpAny _ _ (Builtin.SmallTypes.ownedTupleIsFree (.ref z) >>= _) _ _ _
  refine wpAny_bind (wpAny_tupleHeld_zip hz hT fun h₁ hz₁ hs₁ => ?_)
  simp only [Bool.false_eq_true, if_false]
  refine wpAny_bind ?_
  rw [← Array.forIn_toList]
  simp only [List.forIn_cons, List.forIn_nil]
  refine wpAny_bind (wpAny_bind (wpAny_holding ?_))
  show wpAny _ _ (Builtin.SmallTypes.nextOf (.ref i1) >>= _) _ _ _
  refine wpAny_bind (RZ.nextOf_tuple_item (s := { s with heap := h₁ }) (h1.extBut hs₁.extBut D.i1z) (hl1.extBut hs₁.extBut D.l1z) hx fun h₂ h1₂ hs₂ => wpAny_pure ?_)
  refine wpAny_pure ?_
  refine wpAny_bind (wpAny_bind (wpAny_holding ?_))
  show wpAny _ _ (Builtin.SmallTypes.nextOf (.ref i2) >>= _) _ _ _
  refine wpAny_bind (RZ.nextOf_tuple_item (s := { s with heap := h₂ }) ((h2.extBut hs₁.extBut D.i2z).extBut hs₂.extBut D.i12.symm) ((hl2.extBut hs₁.extBut D.l2z).extBut hs₂.extBut D.l2i1) hy fun h₃ h2₃ hs₃ => wpAny_pure ?_)
  refine wpAny_pure (wpAny_pure ?_)
  show wpAny _ _ (newTuple [x, y] >>= _) _ _ _
  refine wpAny_bind (wpAny_newTuple ?_)
  have hsz : h₃.objs.size = s.heap.objs.size := by rw [hs₃.1, hs₂.1, hs₁.1]
  have hz₃ : IsZipHeld h₃ z TI TO T true := hs₃.extBut _ _ D.i2z.symm (hs₂.extBut _ _ D.i1z.symm hz₁)
  have hk : ∀ c o, c ≠ z → c ≠ i1 → c ≠ i2 → s.heap.get? c = some o → h₃.get? c = some o := fun c o c1 c2 c3 e => hs₃.extBut _ _ c3 (hs₂.extBut _ _ c2 (hs₁.extBut _ _ c1 e))
  have h1₃ : h₃.IsTupleIter i1 l1 (k1 + 1) := h1₂.extBut hs₃.extBut D.i12
  refine wpAny_pure ⟨_, rfl, ?_⟩
  show Q (.ref h₃.objs.size) _
  have hp : IsPair (h₃.push { cls := .type "tuple", data := .seq #[x, y] }) h₃.objs.size x y := Heap.get?_push_size _ rfl
  have hz4 : (h₃.push { cls := .type "tuple", data := .seq #[x, y] }).objs.size = h₃.objs.size + 1 := Heap.size_push ..
  rw [hsz] at hp hz4 ⊢
  exact hQ _ (Heap.get?_push_of_some _ hz₃) (h1₃.at fun o e => Heap.get?_push_of_some _ e) (h2₃.at fun o e => Heap.get?_push_of_some _ e) hp hz4 fun c o c1 c2 c3 e => Heap.get?_push_of_some _ (hk c o c1 c2 c3 e)
theorem zipT_end_held {z TI TO T i1 i2 l1 l2 : Addr} {f : Bool} {oT : Obj} {k1 k2 : Nat} {xs ys : Array Value} {Q : Fin → Shared → Prop} (hh : A.handled = none) (D : ZipApart z TI TO i1 i2 l1 l2)
    (hz : IsZipHeld s.heap z TI TO T f) (hT : s.heap.get? T = some oT) (hTI : IsPair s.heap TI (.ref i1) (.ref i2))
    (h1 : s.heap.IsTupleIter i1 l1 k1) (h2 : s.heap.IsTupleIter i2 l2 k2) (hl1 : s.heap.IsTuple l1 xs) (hl2 : s.heap.IsTuple l2 ys) (hend : xs[k1]? = none ∨ ys[k2]? = none)
    (hE : ∀ h' e, (∀ c o, c ≠ z → c ≠ i1 → c ≠ i2 → s.heap.get? c = some o → h'.get? c = some o) → (∃ o, h'.get? e = some o ∧ o.cls = .type "StopIteration") → E (.ref e) { s with heap := h' }) :
    wpAny (model prog w) A (Builtin.«zip.__next__» ⟨[.ref z], []⟩) Q E s := by
  show wpAny _ _ (field (.ref z) 2 >>= _) _ _ _
  refine wpAny_bind (wpAny_field hz rfl (x := .bool false) rfl ?_)
  show wpAny _ _ (field (.ref z) 3 >>= _) _ _ _
  refine wpAny_bind (wpAny_field hz rfl (x := .ref TI) rfl ?_)
  refine wpAny_bind (wpAny_seqItems hTI rfl ?_)
  show wpAny _ _ (Builtin.SmallTypes.ownedTupleIsFree (.ref z) >>= _) _ _ _
  refine wpAny_bind (wpAny_tupleHeld_zip hz hT fun h₁ hz₁ hs₁ => ?_)
  simp only [Bool.false_eq_true, if_false]
  refine wpAny_bind ?_
  rw [← Array.forIn_toList]
  simp only [List.forIn_cons, List.forIn_nil]
  refine wpAny_bind (wpAny_bind (wpAny_holding ?_))
  show wpAny _ _ (Builtin.SmallTypes.nextOf (.ref i1) >>= _) _ _ _
  cases hx : xs[k1]? with
  | none =>
    refine wpAny_bind (RZ.nextOf_tuple_end (s := { s with heap := h₁ }) hh (h1.extBut hs₁.extBut D.i1z) (hl1.extBut hs₁.extBut D.l1z) hx fun h₂ e hs₂ he => ?_)
    exact hE h₂ e (fun c o c1 c2 _ x => hs₂ _ _ c2 (hs₁.extBut _ _ c1 x)) he
  | some x =>
    have hy : ys[k2]? = none := by rcases hend with h | h; rw [hx] at h; cases h; exact h
    refine wpAny_bind (RZ.nextOf_tuple_item (s := { s with heap := h₁ }) (h1.extBut hs₁.extBut D.i1z) (hl1.extBut hs₁.extBut D.l1z) hx fun h₂ h1₂ hs₂ => wpAny_pure ?_)
    refine wpAny_pure ?_
    refine wpAny_bind (wpAny_bind (wpAny_holding ?_))
    show wpAny _ _ (Builtin.SmallTypes.nextOf (.ref i2) >>= _) _ _ _
    refine wpAny_bind (RZ.nextOf_tuple_end (s := { s with heap := h₂ }) hh ((h2.extBut hs₁.extBut D.i2z).extBut hs₂.extBut D.i12.symm) ((hl2.extBut hs₁.extBut D.l2z).extBut hs₂.extBut D.l2i1) hy fun h₃ e hs₃ he => ?_)
    exact hE h₃ e (fun c o c1 c2 c3 x => hs₃ _ _ c3 (hs₂.extBut _ _ c2 (hs₁.extBut _ _ c1 x))) he
theorem pyNext_zipT_held {z TI TO T i1 i2 l1 l2 : Addr} {f : Bool} {oT : Obj} {k1 k2 : Nat} {xs ys : Array Value} {x y : Value} {Q : Option Value → Shared → Prop} (D : ZipApart z TI TO i1 i2 l1 l2)
    (hz : IsZipHeld s.heap z TI TO T f) (hT : s.heap.get? T = some oT) (hTI : IsPair s.heap TI (.ref i1) (.ref i2))
    (h1 : s.heap.IsTupleIter i1 l1 k1) (h2 : s.heap.IsTupleIter i2 l2 k2) (hl1 : s.heap.IsTuple l1 xs) (hl2 : s.heap.IsTuple l2 ys) (hx : xs[k1]? = some x) (hy : ys[k2]? = some y)
    (hQ : ∀ h', IsZipHeld h' z TI TO T true → h'.IsTupleIter i1 l1 (k1 + 1) → h'.IsTupleIter i2 l2 (k2 + 1) → IsPair h' s.heap.objs.size x y → h'.objs.size = s.heap.objs.size + 1 →
      (∀ c o, c ≠ z → c ≠ i1 → c ≠ i2 → s.heap.get? c = some o → h'.get? c = some o) → Q (some (.ref s.heap.objs.size)) { s with heap := h' }) :
    wpAny (model prog w) A (pyNext (.ref z)) Q E s := by
  have hTy : s.TypeIs (.ref z) "zip" := ⟨_, hz, rfl⟩
  unfold pyNext
  exact wpAny_bind (wpAny_attempt (wpAny_callSpecial?_slot (name := Str.ofString "__next__") hTy F.slot_zip_next
    (wpAny_call_entry F.slot_zip_next hTy F.entry_zip_next
      (zipT_item_held D hz hT hTI h1 h2 hl1 hl2 hx hy fun h' a1 a3 a4 a5 a6 a7 => wpAny_pure (hQ h' a1 a3 a4 a5 a6 a7)) (F.args_zip_next_1 _))))
theorem pyNext_zipT_end_held {z TI TO T i1 i2 l1 l2 : Addr} {f : Bool} {oT : Obj} {k1 k2 : Nat} {xs ys : Array Value} {Q : Option Value → Shared → Prop} (hh : A.handled = none) (D : ZipApart z TI TO i1 i2 l1 l2)
    (hz : IsZipHeld s.heap z TI TO T f) (hT : s.heap.get? T = some oT) (hTI : IsPair s.heap TI (.ref i1) (.ref i2))
    (h1 : s.heap.IsTupleIter i1 l1 k1) (h2 : s.heap.IsTupleIter i2 l2 k2) (hl1 : s.heap.IsTuple l1 xs) (hl2 : s.heap.IsTuple l2 ys) (hend : xs[k1]? = none ∨ ys[k2]? = none)
    (hQ : ∀ h', (∀ c o, c ≠ z → c ≠ i1 → c ≠ i2 → s.heap.get? c = some o → h'.get? c = some o) → Q none { s with heap := h' }) : wpAny (model prog w) A (pyNext (.ref z)) Q E s := by
  have hTy : s.TypeIs (.ref z) "zip" := ⟨_, hz, rfl⟩
  unfold pyNext
  refine wpAny_bind (wpAny_attempt (wpAny_callSpecial?_slot (name := Str.ofString "__next__") hTy F.slot_zip_next
    (wpAny_call_entry F.slot_zip_next hTy F.entry_zip_next (zipT_end_held hh D hz hT hTI h1 h2 hl1 hl2 hend fun h' e hk he => ?_) (F.args_zip_next_1 _))))
  obtain ⟨o, ho, hc⟩ := he
  refine wpAny_bind (wpAny_isInstance (T := "StopIteration") (b := true) ⟨o, ho, hc⟩ isSubtype_stop ?_)
  exact wpAny_pure (hQ _ hk)
end
/-! ### list(zip(t, u)), two tuples -/
/-- the addresses as hold the pairs of xs and ys, in order -/
structure PairG (xs ys : Array Value) (lo : Addr) (h : Heap) (as : List Addr) : Prop where
  rise : as.Pairwise (· < ·)
  above : ∀ a ∈ as, lo < a
  pairs : ∀ (j : Nat) (a : Addr), as[j]? = some a → ∃ x y, xs[j]? = some x ∧ ys[j]? = some y ∧ h.get? a = some { cls := .type "tuple", data := .seq #[x, y] }
theorem PairG.there {xs ys : Array Value} {lo : Addr} {h : Heap} {as : List Addr} (g : PairG xs ys lo h as) {a : Addr} (ha : a ∈ as) : a < h.objs.size := by
  obtain ⟨j, hj⟩ := List.mem_iff_getElem?.mp ha
  obtain ⟨_, _, _, _, e⟩ := g.pairs j a hj
  exact Heap.lt_size e
theorem PairG.low {xs ys : Array Value} {lo lo' : Addr} {h : Heap} {as : List Addr} (g : PairG xs ys lo h as) (hl : lo' ≤ lo) : PairG xs ys lo' h as := ⟨g.rise, fun a ha => Nat.lt_of_le_of_lt hl (g.above a ha), g.pairs⟩
/-- the zip at turn i; S: the list that is filled -/
structure ZSt (z TI TO i1 i2 l1 l2 S : Addr) (xs ys : Array Value) (i : Nat) (h : Heap) : Prop where
  ti : IsPair h TI (.ref i1) (.ref i2)
  h1 : h.IsTupleIter i1 l1 i
  h2 : h.IsTupleIter i2 l2 i
  l1 : h.IsTuple l1 xs
  l2 : h.IsTuple l2 ys
  zz : (IsZip h z TI TO .none ∧ ∃ a b, IsPair h TO a b) ∨ ∃ T f oT, IsZipHeld h z TI TO T f ∧ h.get? T = some oT ∧ T ≠ z ∧ T ≠ i1 ∧ T ≠ i2 ∧ T ≠ S
section
variable {prog : Program} {w : World} {A : Around} {E : Value → Shared → Prop} {s : Shared} {z TI TO i1 i2 l1 l2 S : Addr} {xs ys : Array Value}
/-- S lies apart from all of it -/
structure Off (S z TI TO i1 i2 l1 l2 : Addr) : Prop where
  z : S ≠ z
  ti : S ≠ TI
  to : S ≠ TO
  i1 : S ≠ i1
  i2 : S ≠ i2
  l1 : S ≠ l1
  l2 : S ≠ l2
theorem ZSt.keep {i : Nat} {h h' : Heap} (st : ZSt z TI TO i1 i2 l1 l2 S xs ys i h) (o : Off S z TI TO i1 i2 l1 l2) (k : ∀ b u, b ≠ S → h.get? b = some u → h'.get? b = some u) : ZSt z TI TO i1 i2 l1 l2 S xs ys i h' := by
  refine ⟨k _ _ o.ti.symm st.ti, st.h1.at fun u e => k _ u o.i1.symm e, st.h2.at fun u e => k _ u o.i2.symm e, st.l1.at fun u e => k _ u o.l1.symm e, st.l2.at fun u e => k _ u o.l2.symm e, ?_⟩
  rcases st.zz with ⟨hz, a, b, hTO⟩ | ⟨T, f, oT, hz, hT, r1, r2, r3, r4⟩
  · exact .inl ⟨k _ _ o.z.symm hz, a, b, k _ _ o.to.symm hTO⟩
  · exact .inr ⟨T, f, oT, k _ _ o.z.symm hz, k _ _ r4 hT, r1, r2, r3, r4⟩
theorem zl_item {i : Nat} {Q : Option Value → Shared → Prop} (D : ZipApart z TI TO i1 i2 l1 l2) (st : ZSt z TI TO i1 i2 l1 l2 S xs ys i s.heap) (hS : S < s.heap.objs.size) (h1 : i < xs.size) (h2 : i < ys.size)
    (hQ : ∀ h' x y, xs[i]? = some x → ys[i]? = some y → ZSt z TI TO i1 i2 l1 l2 S xs ys (i + 1) h' → h'.get? s.heap.objs.size = some { cls := .type "tuple", data := .seq #[x, y] } → h'.objs.size = s.heap.objs.size + 1 →
      (∀ b o, b ≠ z → b ≠ TO → b ≠ i1 → b ≠ i2 → s.heap.get? b = some o → h'.get? b = some o) → Q (some (.ref s.heap.objs.size)) { s with heap := h' }) :
    wpAny (model prog w) A (pyNext (.ref z)) Q E s := by
  have ex := Array.getElem?_eq_getElem h1
  have ey := Array.getElem?_eq_getElem h2
  have lt : ∀ {c o}, s.heap.get? c = some o → s.heap.objs.size ≠ c := fun e => Nat.ne_of_gt (Heap.lt_size e)
  have n1 : s.heap.objs.size ≠ i1 := let ⟨_, e, _⟩ := st.h1; lt e
  have n2 : s.heap.objs.size ≠ i2 := let ⟨_, e, _⟩ := st.h2; lt e
  rcases st.zz with ⟨hz, a, b, hTO⟩ | ⟨T, f, oT, hz, hT, r1, r2, r3, r4⟩
  · refine RZ.pyNext_zipT_item D hz st.ti hTO st.h1 st.h2 st.l1 st.l2 ex ey fun h' a1 a2 a3 a4 a5 a6 hk => ?_
    exact hQ h' _ _ ex ey ⟨hk _ _ D.TIz D.TITO D.TIi1 D.TIi2 st.ti, a3, a4, st.l1.at fun o e => hk _ o D.l1z D.l1TO D.l1i1 D.l1i2 e, st.l2.at fun o e => hk _ o D.l2z D.l2TO D.l2i1 D.l2i2 e,
      .inr ⟨s.heap.objs.size, false, _, a1, a5, lt hz, n1, n2, Nat.ne_of_gt hS⟩⟩ a5 a6 hk
  · refine pyNext_zipT_held D hz hT st.ti st.h1 st.h2 st.l1 st.l2 ex ey fun h' a1 a3 a4 a5 a6 hk => ?_
    exact hQ h' _ _ ex ey ⟨hk _ _ D.TIz D.TIi1 D.TIi2 st.ti, a3, a4, st.l1.at fun o e => hk _ o D.l1z D.l1i1 D.l1i2 e, st.l2.at fun o e => hk _ o D.l2z D.l2i1 D.l2i2 e,
      .inr ⟨T, true, oT, a1, hk _ _ r1 r2 r3 hT, r1, r2, r3, r4⟩⟩ a5 a6 fun b o c1 _ c3 c4 e => hk b o c1 c3 c4 e
theorem zl_done {i : Nat} {Q : Option Value → Shared → Prop} (hh : A.handled = none) (D : ZipApart z TI TO i1 i2 l1 l2) (st : ZSt z TI TO i1 i2 l1 l2 S xs ys i s.heap) (h1 : xs.size ≤ i)
    (hQ : ∀ h', (∀ b o, b ≠ z → b ≠ TO → b ≠ i1 → b ≠ i2 → s.heap.get? b = some o → h'.get? b = some o) → Q none { s with heap := h' }) : wpAny (model prog w) A (pyNext (.ref z)) Q E s := by
  have hend : xs[i]? = none ∨ ys[i]? = none := .inl (Array.getElem?_eq_none h1)
  rcases st.zz with ⟨hz, a, b, hTO⟩ | ⟨T, f, oT, hz, hT, r1, r2, r3, r4⟩
  · exact RZ.pyNext_zipT_end hh D hz st.ti hTO st.h1 st.h2 st.l1 st.l2 hend fun h' hk => hQ h' hk
  · exact pyNext_zipT_end_held hh D hz hT st.ti st.h1 st.h2 st.l1 st.l2 hend fun h' hk => hQ h' fun b o c1 _ c3 c4 e => hk b o c1 c3 c4 e
end
section
variable {prog : Program} {w : World} {A : Around} {s : Shared} {R : Result → Shared → Prop} {z TI TO i1 i2 l1 l2 S : Addr} {xs ys : Array Value}
theorem zl_loop (hh : A.handled = none) (D : ZipApart z TI TO i1 i2 l1 l2) (o : Off S z TI TO i1 i2 l1 l2) (hl : xs.size = ys.size) (hn : xs.size ≤ sizeLine) (res : Value) {h₁ : Heap} {lo : Addr} (hSl : S ≤ lo)
    (hR : ∀ h' tk acc c as, (∀ b u, b ≠ S → b ≠ z → b ≠ TO → b ≠ i1 → b ≠ i2 → h₁.get? b = some u → h'.get? b = some u) → h'.get? S = some { cls := .type "list", dict := none, data := .seq acc c, slots := #[] } → as.length = xs.size → PairG xs ys lo h' as →
      acc.toList = as.map Value.ref → R (.ok (.ret res)) { s with heap := h', toks := tk }) (hap : z ≤ lo ∧ TO ≤ lo ∧ i1 ≤ lo ∧ i2 ≤ lo) :
    ∀ (k i : Nat) (h : Heap) (tk c : Nat) (acc : Array Value) (as : List Addr), xs.size - i = k → i ≤ xs.size → ZSt z TI TO i1 i2 l1 l2 S xs ys i h → (∀ b u, b ≠ S → b ≠ z → b ≠ TO → b ≠ i1 → b ≠ i2 → h₁.get? b = some u → h.get? b = some u) →
      h.get? S = some { cls := .type "list", dict := none, data := .seq acc c, slots := #[] } → acc.toList = as.map Value.ref → as.length = i → PairG xs ys lo h as → lo < h.objs.size →
      codeAny (model prog w) A (.builtin "list.extend.loop" ⟨[.ref S, .ref z, res], []⟩) R { s with heap := h, toks := tk } := by
  intro k
  induction k with
  | zero =>
    intro i h tk c acc as hk hi hst hkeep hS hacc hal hG hIs
    refine codeAny_builtin PySem.F.entry_extend_loop ?_
    rw [Around.under_plainId PySem.F.plain_extend_loop _]
    show wpAny _ A.in1 (pyNext (.ref z) >>= _) _ _ _
    refine wpAny_bind (zl_done (s := { s with heap := h, toks := tk }) (A := A.in1) hh D hst (by omega) fun h' he => ?_)
    refine wpAny_pure (hR h' tk acc c as (fun b u h1 h2 h3 h4 h5 e => he b u h2 h3 h4 h5 (hkeep b u h1 h2 h3 h4 h5 e)) (he S _ o.z o.to o.i1 o.i2 hS) (by omega) ⟨hG.rise, hG.above, fun j a hj => ?_⟩ hacc)
    obtain ⟨x, y, e1, e2, e3⟩ := hG.pairs j a hj
    have ha := hG.above a (List.mem_of_getElem? hj)
    exact ⟨x, y, e1, e2, he a _ (Nat.ne_of_gt (Nat.lt_of_le_of_lt hap.1 ha)) (Nat.ne_of_gt (Nat.lt_of_le_of_lt hap.2.1 ha)) (Nat.ne_of_gt (Nat.lt_of_le_of_lt hap.2.2.1 ha)) (Nat.ne_of_gt (Nat.lt_of_le_of_lt hap.2.2.2 ha)) e3⟩
  | succ k ih =>
    intro i h tk c acc as hk hi hst hkeep hS hacc hal hG hIs
    have hlt : i < xs.size := by omega
    have hsz : acc.size = i := by rw [← Array.length_toList, hacc, List.length_map, hal]
    refine codeAny_builtin PySem.F.entry_extend_loop ?_
    rw [Around.under_plainId PySem.F.plain_extend_loop _]
    show wpAny _ A.in1 (pyNext (.ref z) >>= _) _ _ _
    refine wpAny_bind (zl_item (s := { s with heap := h, toks := tk }) (S := S) D hst (Heap.lt_size hS) hlt (by omega) fun h' x y ex ey hst' ht hz hkp => ?_)
    dsimp only at ht hz hkp ⊢
    have hS' := hkp S _ o.z o.to o.i1 o.i2 hS
    have up : ∀ b u, b ≠ S → h'.get? b = some u → (h'.update S (Obj.mapSeq (·.push (Value.ref h.objs.size)))).get? b = some u := fun b u hb e => (Heap.get?_update_other _ _ (Ne.symm hb)).trans e
    have hSl' : S < h.objs.size := Heap.lt_size hS
    show wpAny _ A.in1 (updateSeq S (·.push (Value.ref h.objs.size)) >>= _) _ _ _
    refine wpAny_bind ?_
    refine wpAny_updateSeq hS' rfl (wpAny_pure ⟨plainId_quiet PySem.F.plain_extend_loop _, ih (i + 1) _ tk _ (acc.push (Value.ref h.objs.size)) (as ++ [h.objs.size]) (by omega) hlt (hst'.keep o up)
      (fun b u h1 h2 h3 h4 h5 e => up b u h1 (hkp b u h2 h3 h4 h5 (hkeep b u h1 h2 h3 h4 h5 e))) (Heap.get?_update_self _ hS' rfl) (by rw [Array.toList_push, hacc, List.map_append]; rfl) (by rw [List.length_append, hal]; rfl) ⟨?_, ?_, ?_⟩ ?_⟩) (by rw [hsz]; omega) (by show (acc.push (Value.ref h.objs.size)).size ≤ sizeLine + 1; rw [Array.size_push, hsz]; omega)
    · refine List.pairwise_append.mpr ⟨hG.rise, List.pairwise_singleton _ _, fun a ha b hb => ?_⟩
      rw [List.mem_singleton.mp hb]
      exact hG.there ha
    · intro a ha
      rcases List.mem_append.mp ha with ha | ha
      · exact hG.above a ha
      · rw [List.mem_singleton.mp ha]; exact hIs
    · intro j b hj
      rcases Nat.lt_trichotomy j as.length with h1 | h1 | h1
      · rw [List.getElem?_append_left h1] at hj
        obtain ⟨x', y', e1, e2, e3⟩ := hG.pairs j b hj
        have ha := hG.above b (List.mem_of_getElem? hj)
        exact ⟨x', y', e1, e2, up b _ (Nat.ne_of_gt (Nat.lt_of_le_of_lt hSl ha)) (hkp b _ (Nat.ne_of_gt (Nat.lt_of_le_of_lt hap.1 ha)) (Nat.ne_of_gt (Nat.lt_of_le_of_lt hap.2.1 ha)) (Nat.ne_of_gt (Nat.lt_of_le_of_lt hap.2.2.1 ha)) (Nat.ne_of_gt (Nat.lt_of_le_of_lt hap.2.2.2 ha)) e3)⟩
      · subst h1
        have hb : h.objs.size = b := by simpa using hj
        subst hb
        exact ⟨x, y, by rw [hal]; exact ex, by rw [hal]; exact ey, up _ _ (Nat.ne_of_gt hSl') ht⟩
      · have hnone : (as ++ [h.objs.size])[j]? = none := List.getElem?_eq_none (by rw [List.length_append, List.length_singleton]; omega)
        rw [hnone] at hj; cases hj
    · have e : (h'.update S (Obj.mapSeq (·.push (Value.ref h.objs.size)))).get? h.objs.size = _ := up _ _ (Nat.ne_of_gt hSl') ht
      exact Nat.lt_trans hIs (Heap.lt_size e)
end
theorem zip_no_len : typeLookup (.type "zip") "__len__" = pure none := am_miss_of_fast (by decide +kernel)
theorem zip_no_hint : typeLookup (.type "zip") "__length_hint__" = pure none := am_miss_of_fast (by decide +kernel)
section
variable {prog : Program} {w : World} {A : Around} {E : Value → Shared → Prop} {s : Shared} {z TI TO i1 i2 l1 l2 : Addr} {xs ys : Array Value}
theorem zl_extend {R : Result → Shared → Prop} (hh : A.handled = none) (D : ZipApart z TI TO i1 i2 l1 l2) (hl : xs.size = ys.size) (hn : xs.size ≤ sizeLine) (S : Addr) (o : Off S z TI TO i1 i2 l1 l2) (hzf : IsZip s.heap z TI TO .none) (st : ZSt z TI TO i1 i2 l1 l2 S xs ys 0 s.heap) (hap : z ≤ S ∧ TO ≤ S ∧ i1 ≤ S ∧ i2 ≤ S) (res : Value) (c₀ : Nat)
    (hS : s.heap.get? S = some { cls := .type "list", data := .seq #[] c₀ })
    (hR : ∀ h' tk acc c as, (∀ b u, b ≠ S → b ≠ z → b ≠ TO → b ≠ i1 → b ≠ i2 → s.heap.get? b = some u → h'.get? b = some u) → h'.get? S = some { cls := .type "list", dict := none, data := .seq acc c, slots := #[] } → as.length = xs.size → PairG xs ys S h' as →
      acc.toList = as.map Value.ref → R (.ok (.ret res)) { s with heap := h', toks := tk }) :
    wpAny (model prog w) A.in1 (Builtin.List.listExtendWith (.ref S) (.ref z) res)
      (fun fin s' => match fin with | .done f => R (.ok f) s' | .again c' => c'.quiet = true ∧ codeAny (model prog w) A c' R s') (fun e s' => R (.error e) s') s := by
  have hzT : s.TypeIs (.ref z) "zip" := by
    rcases st.zz with ⟨hz, _⟩ | ⟨T, f, oT, hz, _⟩
    · exact ⟨_, hz, rfl⟩
    · exact ⟨_, hz, rfl⟩
  have hzz : ∃ oz, s.heap.get? z = some oz ∧ oz.cls = .type "zip" := hzT
  have key : ∀ (h : Heap) (c₁ tk : Nat), (∀ b u, b ≠ S → s.heap.get? b = some u → h.get? b = some u) →
      h.get? S = some { cls := .type "list", data := .seq #[] c₁ } → codeAny (model prog w) A (.builtin "list.extend.loop" ⟨[.ref S, .ref z, res], []⟩) R { s with heap := h, toks := tk } := by
    intro h c₁ tk hk hS₁
    exact zl_loop (s := s) (h₁ := s.heap) (lo := S) hh D o hl hn res (Nat.le_refl _) (fun h' tk' acc c as hk' hS' hl hG hacc => hR h' tk' acc c as hk' hS' hl hG hacc) hap
      xs.size 0 h tk c₁ #[] [] (Nat.sub_zero _) (Nat.zero_le _) (st.keep o hk) (fun b u hb _ _ _ _ e => hk b u hb e) hS₁ rfl rfl
      ⟨List.Pairwise.nil, (fun _ ha => nomatch ha), (fun j a hj => by simp at hj)⟩ (Heap.lt_size hS₁)
  unfold Builtin.List.listExtendWith
  refine wpAny_bind (wpAny_typeOf (T := "zip") hzT ?_)
  have h1 : Builtin.List.listSameRef (.ref S) (.ref z) = false := by simp [Builtin.List.listSameRef, o.z]
  have h2 : (Value.type "zip" == Value.type "list") = false := by decide
  have h3 : (Value.type "zip" == Value.type "tuple") = false := by decide
  simp only [h1, h2, h3, Bool.or_false, Bool.false_eq_true, if_false]
  have slf : ∀ {Q : Value → Shared → Prop} {E' : Value → Shared → Prop}, Q (.ref z) s → wpAny (model prog w) A.in1 (pyIter (.ref z)) Q E' s := fun {Q E'} q => wpAny_pyIter_zip hzf q
  refine wpAny_bind (slf ?_)
  refine wpAny_bind (wpAny_holding ?_)
  unfold Builtin.List.listLengthHint
  refine wpAny_bind (wpAny_specialOf hzT zip_no_len ?_)
  show wpAny _ A.in1 (specialOf (Value.ref z) (Str.ofString "__length_hint__") >>= _) _ _ _
  refine wpAny_bind (wpAny_specialOf hzT zip_no_hint ?_)
  refine wpAny_pure ?_
  show wpAny _ A.in1 (rule "list.extend.makes-room" >>= fun _ => Builtin.List.listTouch (.ref S) >>= fun _ =>
    again (.builtin "list.extend.loop" ⟨[.ref S, .ref z, res], []⟩)) _ _ _
  refine wpAny_bind (wpAny_rule ?_)
  refine wpAny_bind ?_
  show wpAny _ A.in1 (updateSeq S (·.push .none) >>= fun _ => updateSeq S (·.pop)) _ _ _
  refine wpAny_bind (wpAny_updateSeq hS rfl ?_)
  have hS₂ := Heap.get?_update_self (Obj.mapSeq (·.push Value.none)) hS rfl
  refine wpAny_updateSeq (hz := by seq_fits) hS₂ rfl ?_
  have hS₃ := Heap.get?_update_self (Obj.mapSeq (·.pop)) hS₂ rfl
  refine wpAny_pure ⟨plainId_quiet PySem.F.plain_extend_loop _, key _ _ _ (fun b u hb e => ?_) hS₃⟩
  exact (Heap.get?_update_other _ _ (Ne.symm hb)).trans ((Heap.get?_update_other _ _ (Ne.symm hb)).trans e)
theorem zl_init {R : Result → Shared → Prop} (hh : A.handled = none) (D : ZipApart z TI TO i1 i2 l1 l2) (hl : xs.size = ys.size) (hn : xs.size ≤ sizeLine) (S : Addr) (o : Off S z TI TO i1 i2 l1 l2) (hzf : IsZip s.heap z TI TO .none) (st : ZSt z TI TO i1 i2 l1 l2 S xs ys 0 s.heap) (hap : z ≤ S ∧ TO ≤ S ∧ i1 ≤ S ∧ i2 ≤ S)
    (hS : s.heap.get? S = some { cls := .type "list", data := .seq #[] })
    (hR : ∀ h' tk acc c as, (∀ b u, b ≠ S → b ≠ z → b ≠ TO → b ≠ i1 → b ≠ i2 → s.heap.get? b = some u → h'.get? b = some u) → h'.get? S = some { cls := .type "list", dict := none, data := .seq acc c, slots := #[] } → as.length = xs.size → PairG xs ys S h' as →
      acc.toList = as.map Value.ref → R (.ok (.ret .none)) { s with heap := h', toks := tk }) :
    wpAny (model prog w) A.in1 (Builtin.«list.__init__» ⟨[.ref S, .ref z], []⟩)
      (fun fin s' => match fin with | .done f => R (.ok f) s' | .again c' => c'.quiet = true ∧ codeAny (model prog w) A c' R s') (fun e s' => R (.error e) s') s := by
  show wpAny _ _ (do let old ← Builtin.List.listItems (.ref S); Builtin.List.listUpdate (.ref S) (fun _ => #[]); letGo old.toList.reverse; Builtin.List.listExtendWith (.ref S) (.ref z) .none) _ _ s
  refine wpAny_bind ?_
  unfold Builtin.List.listItems
  refine wpAny_bind (wpAny_seqItems hS rfl (wpAny_pure ?_))
  show wpAny _ _ (updateSeq S (fun _ => #[]) >>= fun _ => letGo (#[] : Array Value).toList.reverse >>= fun _ => Builtin.List.listExtendWith (.ref S) (.ref z) .none) _ _ s
  refine wpAny_bind (wpAny_updateSeq hS rfl ?_)
  have hS₂ := Heap.get?_update_self (Obj.mapSeq (fun _ => (#[] : Array Value))) hS rfl
  have oth : ∀ b u, b ≠ S → s.heap.get? b = some u → (s.heap.update S (Obj.mapSeq (fun _ => (#[] : Array Value)))).get? b = some u :=
    fun b u hb e => (Heap.get?_update_other _ _ (Ne.symm hb)).trans e
  refine wpAny_bind (wpAny_letGo ?_)
  refine zl_extend hh D hl hn S o (oth _ _ o.z.symm hzf) (st.keep o oth) hap .none _ hS₂ (fun h' tk acc c as hk hS' hl hG hacc => ?_)
  exact hR h' tk acc c as (fun b u h1 h2 h3 h4 h5 e => hk b u h1 h2 h3 h4 h5 (oth b u h1 e)) hS' hl hG hacc
theorem zl_call {Q : Value → Shared → Prop} (hh : A.handled = none) (D : ZipApart z TI TO i1 i2 l1 l2) (hl : xs.size = ys.size) (hn : xs.size ≤ sizeLine) (hzf : IsZip s.heap z TI TO .none) (hTI : IsPair s.heap TI (.ref i1) (.ref i2)) (hTO : ∃ a b, IsPair s.heap TO a b)
    (h1 : s.heap.IsTupleIter i1 l1 0) (h2 : s.heap.IsTupleIter i2 l2 0) (hl1 : s.heap.IsTuple l1 xs) (hl2 : s.heap.IsTuple l2 ys)
    (hQ : ∀ h' tk acc c as, (∀ b u, b ≠ z → b ≠ TO → b ≠ i1 → b ≠ i2 → s.heap.get? b = some u → h'.get? b = some u) → h'.get? s.heap.objs.size = some { cls := .type "list", dict := none, data := .seq acc c, slots := #[] } → as.length = xs.size → PairG xs ys s.heap.objs.size h' as →
      acc.toList = as.map Value.ref → Q (.ref s.heap.objs.size) { s with heap := h', toks := tk }) :
    wpAny (model prog w) A (call (.type "list") [.ref z]) Q E s := by
  refine callType_codes (Q₁ := fun obj s₁ => obj = .ref s.heap.objs.size ∧ s₁ = { s with heap := s.heap.push { cls := .type "list", data := .seq #[] } }) PySem.F.called_list (PySem.F.typeCall_list_1 _) PySem.F.entry_list_init
    (code_list_new _ ⟨rfl, rfl⟩) fun obj s₁ h₁ => ?_
  obtain ⟨rfl, rfl⟩ := h₁
  have hS : (s.heap.push { cls := .type "list", data := .seq #[] }).get? s.heap.objs.size = some { cls := .type "list", data := .seq #[] } := Heap.get?_push_size _ rfl
  have lz : z < s.heap.objs.size := Heap.lt_size hzf
  have lTI : TI < s.heap.objs.size := Heap.lt_size hTI
  have lTO : TO < s.heap.objs.size := by
    obtain ⟨_, _, e⟩ := hTO
    exact Heap.lt_size e
  have li1 : i1 < s.heap.objs.size := by
    obtain ⟨_, e, _⟩ := h1
    exact Heap.lt_size e
  have li2 : i2 < s.heap.objs.size := by
    obtain ⟨_, e, _⟩ := h2
    exact Heap.lt_size e
  have ll1 : l1 < s.heap.objs.size := by
    obtain ⟨_, e, _⟩ := hl1
    exact Heap.lt_size e
  have ll2 : l2 < s.heap.objs.size := by
    obtain ⟨_, e, _⟩ := hl2
    exact Heap.lt_size e
  have off : Off s.heap.objs.size z TI TO i1 i2 l1 l2 := ⟨Nat.ne_of_gt lz, Nat.ne_of_gt lTI, Nat.ne_of_gt lTO, Nat.ne_of_gt li1, Nat.ne_of_gt li2, Nat.ne_of_gt ll1, Nat.ne_of_gt ll2⟩
  have up : ∀ b u, s.heap.get? b = some u → (s.heap.push { cls := .type "list", data := .seq #[] }).get? b = some u := fun b u e => Heap.get?_push_of_some _ e
  refine ⟨⟨_, hS, rfl⟩, PySem.F.args_list_init_2 _ _, zl_init (A := A.in1) hh D hl hn _ off (up _ _ hzf) ⟨up _ _ hTI, h1.at fun u e => up _ u e, h2.at fun u e => up _ u e, hl1.at fun u e => up _ u e, hl2.at fun u e => up _ u e, .inl ⟨up _ _ hzf, let ⟨a, b, e⟩ := hTO; ⟨a, b, up _ _ e⟩⟩⟩
    ⟨Nat.le_of_lt lz, Nat.le_of_lt lTO, Nat.le_of_lt li1, Nat.le_of_lt li2⟩ hS fun h' tk acc c as hk hS' hl hG hacc => ?_⟩
  exact ⟨rfl, hQ h' tk acc c as (fun b u h1 h2 h3 h4 e => hk b u (Nat.ne_of_lt (Heap.lt_size e)) h1 h2 h3 h4 (up b u e)) hS' hl hG hacc⟩
end
/-! ### over the layer -/
def putP : Hp → List Addr → List (V × V) → Hp
  | H, a :: as, p :: ps => putP (upd H a (.tup [p.1, p.2])) as ps
  | H, _, _ => H
theorem putP_off {b : Addr} : ∀ (as : List Addr) (ps : List (V × V)) (H : Hp), b ∉ as → putP H as ps b = H b
  | [], _, _, _ => rfl
  | _ :: _, [], _, _ => rfl
  | a :: as, p :: ps, H, h => by
    show putP (upd H a (.tup [p.1, p.2])) as ps b = H b
    rw [putP_off as ps _ (fun z => h (List.mem_cons_of_mem _ z)), upd_ne (fun z => h (by rw [z]; exact List.mem_cons_self))]
theorem putP_at : ∀ (as : List Addr) (ps : List (V × V)) (H : Hp), as.length = ps.length → as.Nodup → Paired (fun (t : Addr) (p : V × V) => putP H as ps t = some (.tup [p.1, p.2])) as ps
  | [], [], _, _, _ => .nil
  | [], _ :: _, _, h, _ => by cases h
  | _ :: _, [], _, h, _ => by cases h
  | a :: as, p :: ps, H, h, hn => by
    have hn' := List.nodup_cons.mp hn
    have ih := putP_at as ps (upd H a (.tup [p.1, p.2])) (Nat.succ.inj h) hn'.2
    refine .cons ?_ ih
    show putP (upd H a (.tup [p.1, p.2])) as ps a = some (.tup [p.1, p.2])
    rw [putP_off as ps _ hn'.1, upd_same]
def tListZip (K : PySem.W.Frag) (ta : TA) : TE := fun σ H Q => ta σ H fun vs H1 => ∃ a b xs ys, vs = [.ref a, .ref b] ∧ SqT K H1 a xs ∧ SqT K H1 b ys ∧ xs.length = ys.length ∧
  ∀ (H' : Hp) (p : Addr) (ts : List Addr), (∀ c o, H1 c = some o → H' c = some o) → H1 p = none → (∀ t ∈ ts, H1 t = none) → p ∉ ts → H' p = some (.lst (ts.map V.ref)) → Paired (fun (t : Addr) (q : V × V) => H' t = some (.tup [q.1, q.2])) ts (xs.zip ys) → (∀ c, H1 c = none → c ≠ p → c ∉ ts → H' c = none) → Q (.ref p) H'
section
variable {X : Cx} {e e2 : Expr} {ta : TA} {p p2 pos pos2 : Pos}
theorem pe_listZip (hc : X.calm = true) (hg : Gl X "list") (hm : X.mg "list" = none) (hg2 : Gl X "zip") (hm2 : X.mg "zip" = none) (ha : PA X [e, e2] ta)
    (hs : starEach [e, e2] X.env = (false, eval e X.env) :: starEach [e2] X.env) (hpl : (backTo pos2 (starEach [e2] X.env)).any (·.1) = false)
    (na : starEach [.Call (.Name "zip" p2) [e, e2] [] pos2] X.env = (false, eval (.Call (.Name "zip" p2) [e, e2] [] pos2) X.env) :: starEach [] X.env) :
    PE X (.Call (.Name "list" p) [.Call (.Name "zip" p2) [e, e2] [] pos2] [] pos) (tListZip X.K ta) := by
  refine ⟨fun pins s σ H Q I h => ?_⟩
  refine Call_ (ld_blt I hg hm boot_list (PyProof.Rows.callWith_type1 (args_cons ?_ na) na rfl))
  refine Call_ (ld_blt I hg2 hm2 PyProof.Rows.boot_zip (PyProof.Rows.callWith_type1 (thn (ha.run pos2 pins s σ H _ I h) fun us s1 ⟨vs, H1, I1, r1, q1⟩ => ?_) hs hpl))
  obtain ⟨a, b, xs, ys, ex, hqx, hqy, hxy, q⟩ := q1
  subst ex
  cases r1 with
  | cons r rr =>
    cases rr with
    | cons r' rr =>
      cases rr
      cases r
      cases r'
      obtain ⟨its, rv, pt1, hz1⟩ := I1.tuple hqx
      obtain ⟨its2, rv2, pt2, hz2⟩ := I1.tuple hqy
      have l1 := rv.length
      have l2 := rv2.length
      obtain ⟨o1, ho1, _⟩ := id pt1
      obtain ⟨o2, ho2, _⟩ := id pt2
      have la := Heap.lt_size ho1
      have lb := Heap.lt_size ho2
      refine zip_begins2 (begins_tuple a its.toArray) (begins_tuple b its2.toArray) (show s1.heap.IsTuple a its.toArray from pt1) (show s1.heap.IsTuple b its2.toArray from pt2) fun h' hz hTI hTO h1 h2 hsz hk => args_nil ?_
      have D := PySem.W.ktu_apart s1.heap.objs.size a b la lb
      refine zl_call (s := { s1 with heap := h' }) (I1.ok.hd hc) D (by simp; omega) (by simp; omega) hz hTI ⟨_, _, hTO⟩ ⟨_, h1, rfl, rfl⟩ ⟨_, h2, rfl, rfl⟩ ((show s1.heap.IsTuple a its.toArray from pt1).at fun u e => hk _ u e) ((show s1.heap.IsTuple b its2.toArray from pt2).at fun u e => hk _ u e) fun h2' tk acc c as hk2 hS hl hG hacc => ?_
      -- the list and its pairs laid
      have hal : as.length = (xs.zip ys).length := by
        rw [hl, List.length_zip]
        simp
        omega
      have hlow : ∀ t ∈ as, s1.heap.objs.size ≤ t := fun t ht => by
        have z1 : h'.objs.size < t := hG.above t ht
        have z2 : h'.objs.size = s1.heap.objs.size + 5 := hsz
        have z3 : s1.heap.objs.size ≤ h'.objs.size := by rw [z2]; exact Nat.le_add_right _ _
        exact Nat.le_trans z3 (Nat.le_of_lt z1)
      have hSn : h'.objs.size ∉ as := fun z => Nat.lt_irrefl _ (hG.above _ z)
      have nd : as.Nodup := List.Pairwise.imp (fun {a b} (h : a < b) => Nat.ne_of_lt h) hG.rise
      have new : ∀ t ∈ as, H1 t = none := fun t ht => I1.hok.fresh (hlow t ht)
      have newS : H1 h'.objs.size = none := I1.hok.fresh (by rw [hsz]; exact Nat.le_add_right _ _)
      have atP := putP_at as (xs.zip ys) (upd H1 h'.objs.size (.lst (as.map V.ref))) hal nd
      have off : ∀ d, d ∉ as → d ≠ h'.objs.size → putP (upd H1 h'.objs.size (.lst (as.map V.ref))) as (xs.zip ys) d = H1 d := fun d h1 h2 => by rw [putP_off as _ _ h1, upd_ne h2]
      have kh : ∀ d u, s1.heap.get? d = some u → h2'.get? d = some u := fun d u e => by
        have hd := Heap.lt_size e
        have ne : ∀ k, d ≠ s1.heap.objs.size + k := fun k => Nat.ne_of_lt (Nat.lt_of_lt_of_le hd (Nat.le_add_right _ _))
        exact hk2 d u (ne 4) (ne 3) (Nat.ne_of_lt hd) (ne 1) (hk d u e)
      have low : ∀ d u, s1.heap.get? d = some u → d ∉ as ∧ d ≠ h'.objs.size := fun d u e => ⟨fun z => absurd (Heap.lt_size e) (Nat.not_lt.mpr (hlow d z)), by
        have hd := Heap.lt_size e
        rw [hsz]
        exact Nat.ne_of_lt (Nat.lt_of_lt_of_le hd (Nat.le_add_right _ _))⟩
      have kp : ∀ d u, H1 d = some u → (putP (upd H1 h'.objs.size (.lst (as.map V.ref))) as (xs.zip ys)) d = some u := fun d u e => by
        rw [off d (fun z => by rw [new d z] at e; cases e) (fun z => by rw [z, newS] at e; cases e)]
        exact e
      have eS : putP (upd H1 h'.objs.size (.lst (as.map V.ref))) as (xs.zip ys) h'.objs.size = some (.lst (as.map V.ref)) := by rw [putP_off as _ _ hSn, upd_same]
      refine ⟨.ref _, _, ?_, rfl, q _ _ as kp newS new hSn eS atP fun d h1 h2 h3 => by rw [off d h3 h2]; exact h1⟩
      refine I1.call' (ch := []) rfl ⟨fun b o q _ _ _ => kh b o q, fun b o q _ _ _ => ⟨o.slots, kh b o q⟩, fun b o q n _ => ?_, fun b o q _ => ⟨o, kh b o q⟩, fun b xs q => kp b _ q, fun b o u q => kp b _ q, fun b ps q => ⟨#[], by rw [kp b _ q]; simp⟩⟩ (fun b u q => ?_) I1.bare fun b z => by simp at z
      · obtain ⟨z1, z2⟩ := low b o q
        rw [off b z1 z2]
        exact n
      · by_cases hb : b ∈ as
        · obtain ⟨j, pk, e1, e2, e3⟩ := LiI.paired_ix atP hb
          rw [e3] at q
          cases q
          obtain ⟨x, y, f1, f2, f3⟩ := hG.pairs j b e1
          have e2' := List.getElem?_zip_eq_some.mp e2
          obtain ⟨u1, g1, rx⟩ := rv.get e2'.1
          obtain ⟨u2, g2, ry⟩ := rv2.get e2'.2
          have q1 : u1 = x := by
            have z : its.toArray[j]? = some u1 := by simpa using g1
            rw [f1] at z
            exact (Option.some.inj z).symm
          have q2 : u2 = y := by
            have z : its2.toArray[j]? = some u2 := by simpa using g2
            rw [f2] at z
            exact (Option.some.inj z).symm
          subst q1 q2
          exact ⟨by show 2 ≤ sizeLine; decide, [u1, u2], .cons rx (.cons ry .nil), ⟨_, f3, rfl, _, rfl⟩⟩
        · by_cases hb2 : b = h'.objs.size
          · rw [hb2] at q ⊢
            rw [eS] at q
            cases q
            refine ⟨by rw [List.length_map, hl]; simp; omega, acc.toList, c, by rw [hacc]; exact LiI.vals_refs as, ?_⟩
            rw [Array.toArray_toList]
            exact hS
          · rw [off b hb hb2] at q
            exact (I1.hok b u q).stay (fun d v _ y => kh d v y) (fun d y => kp d _ y) fun d xs y => kp d _ y
/-- list(zip(t, u)) of two tuples of one length -/
@[reducible, simp] def dListZip (U : TDA) : TD := fun ρ F => U ρ fun xs => ∃ ds es, xs = [.tup ds, .tup es] ∧ ds.length = es.length ∧ F (.lst (zipD ds es))
theorem pairs_rep {K : PySem.W.Frag} {H0 H' : Hp} : ∀ {ts : List Addr} {ps : List (V × V)} {qs : List (D × D)}, Paired (fun (t : Addr) (q : V × V) => H' t = some (.tup [q.1, q.2])) ts ps → Paired (fun (p : V × V) (q : D × D) => Rep K H0 p.1 q.1 ∧ Rep K H0 p.2 q.2) ps qs → Ex H0 H' → Reps K H' (ts.map V.ref) (qs.map fun p => D.tup [p.1, p.2])
  | _, _, _, .nil, .nil, _ => .nil
  | _, _, _, .cons r t, .cons s u, x => .cons (.tup (.inl (.inl r)) (.cons (s.1.up x) (.cons (s.2.up x) .nil))) (pairs_rep t u x)
theorem zip_reps {K : PySem.W.Frag} {H0 : Hp} : ∀ {xs ys : List V} {ds es : List D}, Reps K H0 xs ds → Reps K H0 ys es → Paired (fun (p : V × V) (q : D × D) => Rep K H0 p.1 q.1 ∧ Rep K H0 p.2 q.2) (xs.zip ys) (ds.zip es)
  | _, _, _, _, .nil, _ => by simpa using .nil
  | _, _, _, _, .cons _ _, .nil => by simpa using .nil
  | _, _, _, _, .cons r t, .cons s u => .cons ⟨r, s⟩ (zip_reps t u)
theorem de_listZip {U : TDA} (hc : X.calm = true) (hm : X.mg "list" = none) (hm2 : X.mg "zip" = none) (ha : DA X [e, e2] U) (hg : Gl X "list" := by rfl) (hg2 : Gl X "zip" := by rfl)
    (hs : starEach [e, e2] X.env = (false, eval e X.env) :: starEach [e2] X.env := by rfl) (hpl : (backTo pos2 (starEach [e2] X.env)).any (·.1) = false := by rfl)
    (na : starEach [.Call (.Name "zip" p2) [e, e2] [] pos2] X.env = (false, eval (.Call (.Name "zip" p2) [e, e2] [] pos2) X.env) :: starEach [] X.env := by rfl) :
    DE X (.Call (.Name "list" p) [.Call (.Name "zip" p2) [e, e2] [] pos2] [] pos) (dListZip U) := by
  obtain ⟨u, pu, v⟩ := ha
  refine ⟨_, pe_listZip hc hg hm hg2 hm2 pu hs hpl na, fun β ρ H0 σ H F R hd h k => ?_⟩
  refine v β ρ H0 σ H _ _ hd h fun xs ws H1 H1' f _ hd1 g1 r1 => ?_
  obtain ⟨ds, es, rfl, hl, f⟩ := f
  cases r1 with
  | cons ra rr =>
    cases rr with
    | cons rb rr =>
      cases rr
      cases ra with
      | @tup a vs _ h1 h2 =>
        cases rb with
        | @tup b us _ h3 h4 =>
          refine ⟨a, b, vs, us, rfl, hd1.x.sqT h1, hd1.x.sqT h3, by rw [h2.length, h4.length, hl], fun H' q ts kp nq nt qn eq pr nn => ?_⟩
          -- the new things stand still
          let H2 : Hp := fun c => if c = q ∨ c ∈ ts then H' c else H1 c
          have e2 : Ex H1 H2 := fun c o ec => by
            show (if c = q ∨ c ∈ ts then H' c else H1 c) = some o
            by_cases hc' : c = q ∨ c ∈ ts
            · rw [if_pos hc']
              exact kp c o (hd1.x c o ec)
            · rw [if_neg hc']
              exact ec
          have x2 : Ex H2 H' := fun c o ec => by
            have ec' : (if c = q ∨ c ∈ ts then H' c else H1 c) = some o := ec
            by_cases hc' : c = q ∨ c ∈ ts
            · rw [if_pos hc'] at ec'
              exact ec'
            · rw [if_neg hc'] at ec'
              exact kp c o (hd1.x c o ec')
          have g2 : Gr X.K H1 H1' H2 H' := ⟨e2, fun c o ec _ => kp c o ec, fun c kvs ec => ⟨kvs, kp c _ ec, fun z => z.mono e2, fun _ => rfl⟩, fun c c1 c2 => by
            show (if c = q ∨ c ∈ ts then H' c else H1 c) = none
            rw [if_neg]
            · exact c1
            · rintro (z | z)
              · exact c2 (by rw [z]; exact nq)
              · exact c2 (nt c z)⟩
          have eq2 : H2 q = some (.lst (ts.map V.ref)) := by
            show (if q = q ∨ q ∈ ts then H' q else H1 q) = _
            rw [if_pos (.inl rfl)]
            exact eq
          have mem_of : ∀ {ts' : List Addr} {ps : List (V × V)}, Paired (fun (t : Addr) (q : V × V) => H' t = some (.tup [q.1, q.2])) ts' ps → (∀ t ∈ ts', t ∈ ts) → Paired (fun (t : Addr) (q : V × V) => H2 t = some (.tup [q.1, q.2])) ts' ps := by
            intro ts' ps pr' hin
            induction pr' with
            | nil => exact .nil
            | @cons t pp ts'' ps'' r _ ih =>
              refine .cons ?_ (ih fun t ht => hin t (List.mem_cons_of_mem _ ht))
              show (if t = q ∨ t ∈ ts then H' t else H1 t) = _
              rw [if_pos (.inr (hin t List.mem_cons_self))]
              exact r
          have pr2 := mem_of pr fun t ht => ht
          have rr := pairs_rep pr2 (zip_reps h2 h4) e2
          exact k _ _ H2 H' f (hd1.up x2 g2) (g1.trans g2) (.lst eq2 rr)
end
end DL

set_option Elab.async false
set_option linter.all false
/-! The mirror: what the program reckons, over rational numbers. Plain Lean. -/
namespace EP

/-! ### sizes of numbers -/
def Sm (n : Nat) (q : Rat) : Prop := q.num.natAbs < 2 ^ n ∧ q.den < 2 ^ n
theorem Sm.mono {n m : Nat} {q : Rat} (h : Sm n q) (l : n ≤ m) : Sm m q :=
  ⟨Nat.lt_of_lt_of_le h.1 (Nat.pow_le_pow_right (by decide) l), Nat.lt_of_lt_of_le h.2 (Nat.pow_le_pow_right (by decide) l)⟩
theorem sm_mkRat {t : Int} {b n : Nat} (ht : t.natAbs < 2 ^ n) (hb : b < 2 ^ n) (hn : 0 < n) : Sm n (mkRat t b) := by
  have one : 1 < 2 ^ n := Nat.one_lt_two_pow (by omega)
  refine ⟨?_, ?_⟩
  · rw [Rat.num_mkRat]
    split
    · show 0 < 2 ^ n
      exact Nat.two_pow_pos n
    · refine Nat.lt_of_le_of_lt ?_ ht
      rw [Int.natAbs_ediv_of_dvd (Int.ofNat_dvd_left.mpr (Nat.gcd_dvd_right _ _)), Int.natAbs_natCast]
      exact Nat.div_le_self _ _
  · rw [Rat.den_mkRat]
    split
    · exact one
    · exact Nat.lt_of_le_of_lt (Nat.div_le_self _ _) hb
theorem mul_lt_pow {a b n m : Nat} (ha : a < 2 ^ n) (hb : b < 2 ^ m) : a * b < 2 ^ (n + m) := by
  rw [Nat.pow_add]
  exact Nat.mul_lt_mul'' ha hb
theorem natAbs_mul_lt {a b : Int} {n m : Nat} (ha : a.natAbs < 2 ^ n) (hb : b.natAbs < 2 ^ m) : (a * b).natAbs < 2 ^ (n + m) := by
  rw [Int.natAbs_mul]
  exact mul_lt_pow ha hb
theorem natAbs_add_lt {a b : Int} {n : Nat} (ha : a.natAbs < 2 ^ n) (hb : b.natAbs < 2 ^ n) : (a + b).natAbs < 2 ^ (n + 1) := by
  rw [Nat.pow_succ]
  omega
theorem natAbs_sub_lt {a b : Int} {n : Nat} (ha : a.natAbs < 2 ^ n) (hb : b.natAbs < 2 ^ n) : (a - b).natAbs < 2 ^ (n + 1) := by
  rw [Nat.pow_succ]
  omega
theorem Sm.mul {n m : Nat} {a b : Rat} (ha : Sm n a) (hb : Sm m b) : Sm (n + m + 1) (a * b) := by
  rw [Rat.mul_def']
  refine Sm.mono (n := n + m + 1) (sm_mkRat ?_ ?_ (by omega)) (Nat.le_refl _)
  · exact Nat.lt_trans (natAbs_mul_lt ha.1 hb.1) (Nat.pow_lt_pow_right (by decide) (by omega))
  · exact Nat.lt_trans (mul_lt_pow ha.2 hb.2) (Nat.pow_lt_pow_right (by decide) (by omega))
theorem cross_lt {n m : Nat} {a b : Rat} (ha : Sm n a) (hb : Sm m b) : (a.num * (b.den : Int)).natAbs < 2 ^ (n + m) ∧ (b.num * (a.den : Int)).natAbs < 2 ^ (n + m) := by
  refine ⟨natAbs_mul_lt ha.1 (by rw [Int.natAbs_natCast]; exact hb.2), ?_⟩
  rw [Nat.add_comm n m]
  exact natAbs_mul_lt hb.1 (by rw [Int.natAbs_natCast]; exact ha.2)
theorem Sm.add {n m : Nat} {a b : Rat} (ha : Sm n a) (hb : Sm m b) : Sm (n + m + 1) (a + b) := by
  obtain ⟨h1, h2⟩ := cross_lt ha hb
  rw [Rat.add_def']
  refine sm_mkRat (natAbs_add_lt h1 h2) ?_ (by omega)
  exact Nat.lt_trans (mul_lt_pow ha.2 hb.2) (Nat.pow_lt_pow_right (by decide) (by omega))
theorem Sm.sub {n m : Nat} {a b : Rat} (ha : Sm n a) (hb : Sm m b) : Sm (n + m + 1) (a - b) := by
  obtain ⟨h1, h2⟩ := cross_lt ha hb
  rw [Rat.sub_def']
  refine sm_mkRat (natAbs_sub_lt h1 h2) ?_ (by omega)
  exact Nat.lt_trans (mul_lt_pow ha.2 hb.2) (Nat.pow_lt_pow_right (by decide) (by omega))
theorem Sm.max {n : Nat} {a b : Rat} (ha : Sm n a) (hb : Sm n b) : Sm n (max a b) := by
  rw [Rat.max_def]
  split
  · exact hb
  · exact ha
theorem Sm.min {n : Nat} {a b : Rat} (ha : Sm n a) (hb : Sm n b) : Sm n (min a b) := by
  rw [Rat.min_def]
  split
  · exact ha
  · exact hb
theorem sm_zero : Sm 1 0 := by constructor <;> decide
theorem sm_one : Sm 1 1 := by constructor <;> decide
theorem sm_neg : Sm 1 (-1) := by constructor <;> decide
end EP

set_option Elab.async false
set_option linter.all false
set_option maxRecDepth 100000
set_option maxHeartbeats 4000000
/-! The feed: what is read of it, what is put into it. -/
namespace DL
open PySem PySem.Spec PyProof.Rows L2
section
variable {X : Cx} {e : Expr} {Te : TD} {pos : Pos}
@[reducible, simp] def dFeedI (i : Nat) : TD := fun ρ F => ρ[i]? = some (some .feed) ∧ ∀ t : Int, F (.int t)
@[reducible, simp] def dFeedC (i : Nat) : TD := fun ρ F => ρ[i]? = some (some .feed) ∧ ∀ ns : List Int, ns.length ≤ 63 → F (.lst (ns.map .int))
@[reducible, simp] def dPutI (i : Nat) (Te : TD) : TDS := fun E ρ => ρ[i]? = some (some .feed) ∧ Te ρ fun d => ∃ n : Int, d = .int n ∧ E.nx ρ
theorem de_feedI (i : Nat) (key : String) {x : Str} {p p2 : Pos} {j} (hu : X.A.units + 1 < cLine) (hkey : ∀ c x l t, ∃ n, valV (feedKvs c x l t) (.inr (Str.ofString key)) = some (.int n) := by intro _ _ _ _; exact ⟨_, rfl⟩) (hN : X.N[i]? = some x := by rfl) (hv : Vis X.env.scope x := by first | exact Or.inl rfl | exact Or.inr (Or.inl rfl) | exact Or.inr (Or.inr rfl)) (hd : (x == ("__debug__" : Str)) = false := by decide)
    (hcd : (x == ("__classdict__" : Str)) = false := by decide) : DE X (.Subscript (.Name x p) (.Constant (.str (Str.ofString key)) j p2) pos) (dFeedI i) := by
  refine ⟨_, pe_dget hu (pe_var hN hv hd hcd) pe_str (fun _ _ => rfl), fun β ρ H0 σ H F R hd ⟨h1, h2⟩ k => ?_⟩
  obtain ⟨a, ha, h0, kvs, hk, c, ns, x, l, t, rfl, hc, hn⟩ := hd.feed i h1
  obtain ⟨n, hv⟩ := hkey c x l t
  refine ⟨_, ha, a, .int n, rfl, ?_, k _ _ H0 H (h2 n) hd (Gr.refl _ _ _) (.int n)⟩
  rw [← hv]
  exact DGet.k (k := .inr (Str.ofString key)) hk
theorem reps_of_ints {K : PySem.W.Frag} {H0 : Hp} : ∀ ns : List Int, Reps K H0 (ns.map V.int) (ns.map D.int)
  | [] => .nil
  | n :: ns => .cons (.int n) (reps_of_ints ns)
theorem de_feedC (i : Nat) {x : Str} {p p2 : Pos} {j} (hu : X.A.units + 1 < cLine) (hN : X.N[i]? = some x := by rfl) (hv : Vis X.env.scope x := by first | exact Or.inl rfl | exact Or.inr (Or.inl rfl) | exact Or.inr (Or.inr rfl)) (hd : (x == ("__debug__" : Str)) = false := by decide)
    (hcd : (x == ("__classdict__" : Str)) = false := by decide) : DE X (.Subscript (.Name x p) (.Constant (.str "cells") j p2) pos) (dFeedC i) := by
  refine ⟨_, pe_dget hu (pe_var hN hv hd hcd) pe_str (fun _ _ => rfl), fun β ρ H0 σ H F R hd ⟨h1, h2⟩ k => ?_⟩
  obtain ⟨a, ha, h0, kvs, hk, c, ns, x, l, t, rfl, hc, hn⟩ := hd.feed i h1
  exact ⟨_, ha, a, .ref c, rfl, DGet.k (k := .inr "cells") hk, k _ _ H0 H (h2 ns hn) hd (Gr.refl _ _ _) (.lst hc (reps_of_ints ns))⟩
theorem feed_put {K : PySem.W.Frag} {β : Base} {ρ : DEnv} {H0 H : Hp} {σ : L2.St} (hd : Hd K β ρ H0 σ H) {a c : Addr} {x l t x' l' t' : Int} (h0 : H0 a = none) (hk : H a = some (.dK (feedKvs c x l t))) : Hd K β ρ H0 σ (upd H a (.dK (feedKvs c x' l' t'))) := by
  refine hd.up (fun b o e => ?_) ⟨Ex.refl _, fun b o e n => ?_, fun b kvs e => ?_, fun p h _ => h⟩
  · rw [upd_ne (ne_of_none e h0)]
    exact hd.x b o e
  · rw [upd_ne (fun z => by rw [z, hk] at e; exact n _ (Option.some.inj e).symm)]
    exact e
  · by_cases z : b = a
    · subst z
      rw [hk] at e
      cases e
      refine ⟨_, upd_same, fun f => ?_, fun nf => absurd ⟨c, x, l, t, rfl⟩ nf⟩
      obtain ⟨c2, ns2, x2, l2, t2, e2, s2, n2⟩ := f
      unfold feedKvs at e2
      simp only [List.cons.injEq, Prod.mk.injEq, V.ref.injEq, true_and] at e2
      obtain ⟨rfl, _⟩ := e2
      exact ⟨c, ns2, x', l', t', rfl, s2, n2⟩
    · rw [upd_ne z]
      exact ⟨kvs, e, id, fun _ => rfl⟩
theorem ds_put (i : Nat) (key : String) {x : Str} {p p2 p3 : Pos} {j} (hu : X.A.units + 1 < cLine) (he : DE X e Te) (hkey : ∀ c x l t n, ∃ x' l' t', putK (feedKvs c x l t) (.inr (Str.ofString key)) (.int n) = feedKvs c x' l' t')
    (hN : X.N[i]? = some x := by rfl) (hv : Vis X.env.scope x := by first | exact Or.inl rfl | exact Or.inr (Or.inl rfl) | exact Or.inr (Or.inr rfl)) (hd : (x == ("__debug__" : Str)) = false := by decide) (hcd : (x == ("__classdict__" : Str)) = false := by decide)
    (hs : swapsWith e (some (.Subscript (.Name x p) (.Constant (.str (Str.ofString key)) j p2) p3)) pos.line X.env = pure false := by rfl) :
    DS X (.Assign [.Subscript (.Name x p) (.Constant (.str (Str.ofString key)) j p2) p3] e pos) (dPutI i Te) := by
  obtain ⟨t, pe, ve⟩ := he
  refine ⟨_, ps_dput hu (pe_var hN hv hd hcd) pe_str pe hs, fun β ρ H0 σ H E D' hd l ⟨h1, h⟩ => ?_⟩
  refine ve β ρ H0 σ H _ _ hd h fun d w H1 H1' f hd1 g1 r1 => ?_
  obtain ⟨n, rfl, f⟩ := f
  cases r1
  obtain ⟨a, ha, h0, kvs, hk, cc, ns, x, l2, t2, rfl, hc, hn⟩ := hd1.feed i h1
  obtain ⟨x', l', t', ek⟩ := hkey cc x l2 t2 n
  refine ⟨_, ha, a, _, rfl, DPut.k (k := .inr (Str.ofString key)) hk (show 4 < sizeLine by decide), ?_⟩
  rw [ek]
  exact l.nx _ _ _ _ (feed_put hd1 h0 hk) f
end
@[reducible, simp] def dCellsIf (i j c : Nat) : TDS := fun E ρ => ρ[i]? = some (some .feed) ∧ ∃ k : Int, ρ[j]? = some (some (.val (.int k))) ∧ E.nx ρ ∧ ∀ n : Int, E.nx (ρ.set c (some (.val (.int n))))
theorem plains_ints (n : Nat) : ∀ ns : List Int, plainDs n (ns.map D.int) = true
  | [] => rfl
  | i :: ns => by
    simp only [List.map_cons, plainDs, plainD, Bool.true_and]
    exact plains_ints n ns
section
variable {X : Cx} {pos : Pos}
theorem ds_cells (i j c : Nat) {x y z : Str} {p1 p2 p3 p4 p5 p6 p7 p8 p9 q1 q2 q3 q4 q5 q6 q7 q8 : Pos} {j1 j2 j3} (hu : X.A.units + 1 < cLine) (hu64 : X.A.units + 64 < cLine) (hN : X.N.Nodup) (hml : X.mg "len" = none) (hi : X.N[i]? = some x := by rfl) (hj : X.N[j]? = some z := by rfl) (hcy : X.N[c]? = some y := by rfl)
    (hv : Vis X.env.scope x := by first | exact Or.inl rfl | exact Or.inr (Or.inl rfl) | exact Or.inr (Or.inr rfl)) (hd : (x == ("__debug__" : Str)) = false := by decide) (hcd : (x == ("__classdict__" : Str)) = false := by decide)
    (hvz : Vis X.env.scope z := by first | exact Or.inl rfl | exact Or.inr (Or.inl rfl) | exact Or.inr (Or.inr rfl)) (hdz : (z == ("__debug__" : Str)) = false := by decide) (hcdz : (z == ("__classdict__" : Str)) = false := by decide)
    (hx : Loc X.env.scope y := by first | exact .inl rfl | exact .inr rfl) (hf : X.fn y = true ∨ X.env.scope.names.lookup y = some .local := by first | exact .inl rfl | exact .inr rfl) (hgl : Gl X "len" := by rfl)
    (hm : behindInMarks .NotEq (.List [] p4) = false := by first | exact nomark _ | rfl)
    (hsl : starEach [.Subscript (.Name x q4) (.Constant (.str "cells") j3 q5) q6] X.env = (false, eval (.Subscript (.Name x q4) (.Constant (.str "cells") j3 q5) q6) X.env) :: starEach [] X.env := by rfl)
    (hpl : (backTo q7 (starEach [] X.env)).any (·.1) = false := by rfl)
    (hsw : swapsWith (.Subscript (.Subscript (.Name x p6) (.Constant (.str "cells") j2 p7) p8) (.BinOp (.Name z q1) .Mod (.Call (.Name "len" q2) [.Subscript (.Name x q4) (.Constant (.str "cells") j3 q5) q6] [] q7) q8) p9) (some (.Name y p5)) q3.line X.env = pure false := by rfl) :
    DS X (.If (.Compare (.Subscript (.Name x p1) (.Constant (.str "cells") j1 p2) p3) [.NotEq] [.List [] p4] pos)
      [.Assign [.Name y p5] (.Subscript (.Subscript (.Name x p6) (.Constant (.str "cells") j2 p7) p8) (.BinOp (.Name z q1) .Mod (.Call (.Name "len" q2) [.Subscript (.Name x q4) (.Constant (.str "cells") j3 q5) q6] [] q7) q8) p9) q3] [] pos) (dCellsIf i j c) := by
  have pf : ∀ {p1 p2 p3 : Pos} {j1}, PE X (.Subscript (.Name x p1) (.Constant (.str "cells") j1 p2) p3) (tDGet (tVar i) (tC (.str "cells"))) := fun {p1 p2 p3 j1} => pe_dget hu (pe_var hi hv hd hcd) pe_str (fun _ _ => rfl)
  refine ⟨_, ps_if (pt_cmpR (op_neD hu64) pf (pe_lst pa_nil) hm) (pss_one (ps_set hN hcy hx (pe_ix ix_any pf (pe_op op_mod (pe_var hj hvz hdz hcdz) (pe_callB call_len_seq hgl hml PySem.boot_len (pa_cons pf pa_nil hsl) (by decide) (by decide) hsl hpl)) (fun _ _ => rfl)) hsw hf)) pss_nil, fun β ρ H0 σ H E D' hd l ⟨h1, k, h2, h3, h4⟩ => ?_⟩
  obtain ⟨a, ha, h0, kvs, hk, cc, ns, x, l2, t2, rfl, hc, hn⟩ := hd.feed i h1
  obtain ⟨v, hv1, hv2⟩ := hd.val j _ h2
  cases hv2
  have hcH := hd.x _ _ hc
  refine ⟨_, ha, a, .ref cc, rfl, DGet.k (k := .inr "cells") hk, ?_⟩
  refine ⟨by decide, fun q hq => ?_⟩
  have hk1 : upd H q (.lst []) a = some (.dK (feedKvs cc x l2 t2)) := by rw [upd_ne (ne_of_none hk hq)]; exact hk
  have hc1 : upd H q (.lst []) cc = some (.lst (ns.map V.int)) := by rw [upd_ne (ne_of_none hcH hq)]; exact hcH
  have g1 : Gr X.K H0 H H0 (upd H q (.lst [])) := Gr.newM hq
  have hd1 : Hd X.K β ρ H0 σ (upd H q (.lst [])) := hd.up (hd.x.trans (Ex.new hq)) g1
  have dp : DpAll X.K (upd H q (.lst [])) (ns.map V.int) (pyDs (ns.map D.int)) := plains_dp hd1.x 63 (ns.map D.int) _ (plains_ints 63 ns) (reps_of_ints ns)
  refine ⟨.list (pyDs (ns.map D.int)), .list [], .lst (SqL.of hc1) dp, .lst (SqL.of upd_same) .nil, ?_, by decide +kernel, ?_⟩
  · exact plain_shaped (d := .lst (ns.map D.int)) (plains_ints 63 ns)
  · refine ⟨_, rfl, ?_⟩
    cases ns with
    | nil => exact l.nx _ _ _ _ hd1 h3
    | cons n ns =>
      have e : (!(PyData.list (pyDs (List.map D.int (n :: ns)))).eqv (PyData.list [])) = true := rfl
      rw [e]
      rw [if_pos rfl]
      refine ⟨_, ha, a, .ref cc, rfl, DGet.k (k := .inr "cells") hk1, ?_⟩
      refine ⟨_, hv1, ?_⟩
      refine ⟨_, ha, a, .ref cc, rfl, DGet.k (k := .inr "cells") hk1, ?_⟩
      refine ⟨cc, _, rfl, .inl (SqL.of hc1), ?_⟩
      have hl : 0 < (((n :: ns).map V.int).length : Int) := by
        simp only [List.length_map, List.length_cons]
        omega
      refine ⟨k, _, rfl, rfl, hl, ?_⟩
      have r0 : 0 ≤ k % (((n :: ns).map V.int).length : Int) := Int.emod_nonneg _ (by omega)
      have r1 : k % (((n :: ns).map V.int).length : Int) < (((n :: ns).map V.int).length : Int) := Int.emod_lt_of_pos _ hl
      obtain ⟨m, hr⟩ := Int.eq_ofNat_of_zero_le r0
      have hm : m < (n :: ns).length := by
        rw [hr] at r1
        simp only [List.length_map] at r1
        omega
      refine .inl ⟨cc, (n :: ns).map V.int, k % (((n :: ns).map V.int).length : Int), .int (n :: ns)[m], rfl, rfl, SqL.of hc1, ?_, ?_⟩
      · rw [hr] at r0 r1 ⊢
        unfold atI ixN
        rw [if_pos r0, if_pos r1]
        show ((n :: ns).map V.int)[(m : Int).toNat]? = _
        rw [Int.toNat_natCast, List.getElem?_map, List.getElem?_eq_getElem hm]
        rfl
      · exact l.nx _ _ _ _ (hd1.set (.int _)) (h4 _)
end
end DL

set_option Elab.async false
set_option linter.all false
namespace EP
/-! ### the mirror -/
inductive Wd | to | frm | rnd | un
  deriving DecidableEq
inductive Fam | corner | inner | round
  deriving DecidableEq
structure CS where
  w : Wd
  r0 : Rat × Rat
  r1 : Rat × Rat
inductive Tr
  | leaf
  | cut (s : Nat) (q : Bool) (a : Rat) (P Q : Tr)
  | ways (s : Nat) (P Q : Tr)
abbrev Pt := List Rat
abbrev Cell := List CS
def wh : Rat × Rat := (-1, 1)
def cs0 : CS := ⟨.un, wh, wh⟩
def m0 (x : Rat) : Rat := if x < 0 then 0 else x
def between (w : Wd) (a b : Rat) : Rat := if w = .frm then m0 (m0 b - m0 a) else if 1 < (1 - m0 a) + m0 b then 1 else (1 - m0 a) + m0 b
def CS.sure (c : CS) (x : Rat) : Bool := match c.w with
  | .to => !decide (c.r0.1 < x)
  | .frm => !decide (x < c.r0.2) && !decide (c.r1.1 < x)
  | _ => !decide (x < c.r0.2) || !decide (c.r1.1 < x)
def CS.maybe (c : CS) (x : Rat) : Bool := match c.w with
  | .to => decide (x < c.r0.2)
  | .frm => decide (c.r0.1 < x) && decide (x < c.r1.2)
  | _ => decide (c.r0.1 < x) || decide (x < c.r1.2)
def CS.lo (c : CS) : Rat := if c.w = .to then m0 c.r0.1 else between c.w c.r0.2 c.r1.1
def CS.hi (c : CS) : Rat := if c.w = .to then m0 c.r0.2 else between c.w c.r0.1 c.r1.2
def CS.rng (c : CS) (q : Bool) : Rat × Rat := if q = true then c.r1 else c.r0
def CS.put (c : CS) (q : Bool) (r : Rat × Rat) : CS := if q = true then { c with r1 := r } else { c with r0 := r }
def CS.low (q : Bool) (a : Rat) (c : CS) : CS := c.put q ((c.rng q).1, a)
def CS.high (q : Bool) (a : Rat) (c : CS) : CS := c.put q (a, (c.rng q).2)
def CS.word (w : Wd) (c : CS) : CS := { c with w := w }
def allS (cell : Cell) (p : Pt) : Bool := (p.zip cell).all fun z => z.2.sure z.1
def allM (cell : Cell) (p : Pt) : Bool := (p.zip cell).all fun z => z.2.maybe z.1
def cntS (pts : List Pt) (cell : Cell) : Nat := pts.countP (allS cell)
def cntN (pts : List Pt) (cell : Cell) : Nat := pts.countP fun p => !allS cell p && allM cell p
def vLo (cell : Cell) : Rat := cell.foldl (fun v c => v * c.lo) 1
def vHi (cell : Cell) : Rat := cell.foldl (fun v c => v * c.hi) 1
def overN (pts : List Pt) (cell : Cell) : Rat := mkRat ((cntS pts cell : Int) + cntN pts cell) pts.length - vLo cell
def lackN (pts : List Pt) (cell : Cell) : Rat := vHi cell - mkRat (cntS pts cell : Int) pts.length
def mx (a b : Rat) : Rat := if a < b then b else a
def getC (cell : Cell) (s : Nat) : CS := (cell[s]?).getD cs0
def need (pts : List Pt) : Cell → Tr → Rat
  | cell, .leaf => mx (overN pts cell) (lackN pts cell)
  | cell, .cut s q a P Q => mx (need pts (cell.modify s (CS.low q a)) P) (need pts (cell.modify s (CS.high q a)) Q)
  | cell, .ways s P Q => mx (need pts (cell.modify s (CS.word .frm)) P) (need pts (cell.modify s (CS.word .rnd)) Q)
def Wf (f : Fam) : Cell → Tr → Prop
  | cell, .leaf => ∀ c ∈ cell, c.w ≠ .un
  | cell, .cut s q a P Q => s < cell.length ∧ (q = true → f ≠ .corner) ∧ Sm 50 a ∧ ((getC cell s).rng q).1 < a ∧ a < ((getC cell s).rng q).2 ∧ Wf f (cell.modify s (CS.low q a)) P ∧ Wf f (cell.modify s (CS.high q a)) Q
  | cell, .ways s P Q => s < cell.length ∧ f = .round ∧ (getC cell s).w = .un ∧ Wf f (cell.modify s (CS.word .frm)) P ∧ Wf f (cell.modify s (CS.word .rnd)) Q
def firstC (f : Fam) : CS := ⟨match f with | .corner => .to | .inner => .frm | .round => .un, wh, wh⟩
def first (n : Nat) (f : Fam) : Cell := List.replicate n (firstC f)
def ht : Tr → Nat
  | .leaf => 0
  | .cut _ _ _ P Q => max (ht P) (ht Q) + 1
  | .ways _ P Q => max (ht P) (ht Q) + 1
/-! what is carried -/
def graftL : Cell → Tr → Tr
  | _, .leaf => .leaf
  | cell, .cut s q a P Q => if ((getC cell s).rng q).1 < a then (if a < ((getC cell s).rng q).2 then .cut s q a (graftL (cell.modify s (CS.low q a)) P) (graftL (cell.modify s (CS.high q a)) Q) else graftL cell P) else graftL cell Q
  | cell, .ways s P Q => if (getC cell s).w = .un then .ways s (graftL (cell.modify s (CS.word .frm)) P) (graftL (cell.modify s (CS.word .rnd)) Q) else if (getC cell s).w = .rnd then graftL cell Q else graftL cell P
def graft : Cell → Tr → Tr → Tr
  | cell, .leaf, M => graftL cell M
  | cell, .cut s q a P Q, M => .cut s q a (graft (cell.modify s (CS.low q a)) P M) (graft (cell.modify s (CS.high q a)) Q M)
  | cell, .ways s P Q, M => .ways s (graft (cell.modify s (CS.word .frm)) P M) (graft (cell.modify s (CS.word .rnd)) Q M)
def exch (n : Nat) : Tr → Tr
  | .leaf => .leaf
  | .cut s q a P Q => .cut (n - 1 - s) q a (exch n P) (exch n Q)
  | .ways s P Q => .ways (n - 1 - s) (exch n P) (exch n Q)
def shadow (f : Fam) (o : Nat) : Tr → Tr
  | .leaf => .leaf
  | .cut s q a P Q => if s = o then (if a < (if f ≠ .corner ∧ q = false then 0 else 1) then shadow f o Q else shadow f o P) else .cut (if o < s then s - 1 else s) q a (shadow f o P) (shadow f o Q)
  | .ways s P Q => if s = o then shadow f o P else .ways (if o < s then s - 1 else s) (shadow f o P) (shadow f o Q)
def innerT : Tr → Tr
  | .leaf => .leaf
  | .cut s q a P Q => .cut s q a (innerT P) (innerT Q)
  | .ways _ P _ => innerT P
def cornerT : Tr → Tr
  | .leaf => .leaf
  | .cut s q a P Q => if q = false then (if a < 0 then cornerT Q else cornerT P) else .cut s false a (cornerT P) (cornerT Q)
  | .ways _ P _ => cornerT P
def noW : Tr → Prop
  | .leaf => True
  | .cut _ _ _ P Q => noW P ∧ noW Q
  | .ways _ _ _ => False
/-- a box's side: to a; from a to b; round a, b -/
structure BS where
  w : Wd
  a : Rat
  b : Rat
def BS.size (s : BS) : Rat := match s.w with
  | .to => m0 s.a
  | .frm => m0 (m0 s.b - m0 s.a)
  | _ => if 0 < m0 s.b - m0 s.a then 1 else 1 + (m0 s.b - m0 s.a)
def behind (shut : Bool) (x e : Rat) : Bool := decide (e < x) || (decide (x = e) && shut)
def ahead (shut : Bool) (x e : Rat) : Bool := decide (x < e) || (decide (x = e) && shut)
def BS.lies (shut : Bool) (s : BS) (x : Rat) : Bool := match s.w with
  | .to => ahead shut x s.a
  | .frm => behind shut x s.a && ahead shut x s.b
  | _ => behind shut x s.a || ahead shut x s.b
abbrev Box := List BS
def liesIn (shut : Bool) (box : Box) (p : Pt) : Bool := (p.zip box).all fun z => z.2.lies shut z.1
def bsize (box : Box) : Rat := box.foldl (fun v c => v * c.size) 1
def overB (pts : List Pt) (box : Box) : Rat := mkRat (pts.countP (liesIn true box) : Int) pts.length - bsize box
def lackB (pts : List Pt) (box : Box) : Rat := bsize box - mkRat (pts.countP (liesIn false box) : Int) pts.length
/-- a side that a family's look may have -/
def BSok (f : Fam) (s : BS) : Prop := (f = .corner → s.w = .to) ∧ (f = .inner → s.w = .frm) ∧ (f = .round → s.w = .frm ∨ s.w = .rnd) ∧ -1 ≤ s.a ∧ s.a ≤ 1 ∧ -1 ≤ s.b ∧ s.b ≤ 1 ∧ Sm 50 s.a ∧ Sm 50 s.b
/-- papers' points -/
def PtOk (n : Nat) (p : Pt) : Prop := p.length = n ∧ ∀ x ∈ p, 0 ≤ x ∧ x < 1 ∧ Sm 50 x
end EP

set_option Elab.async false
set_option linter.all false
set_option maxRecDepth 100000
set_option maxHeartbeats 4000000
namespace EP
open PySem PySem.Spec PyProof.Rows L2 DL
theorem boot_abs_ : bootBuiltins "abs" = some (.builtin "abs") := by decide +kernel
theorem boot_all_ : bootBuiltins "all" = some (.builtin "all") := by decide +kernel
theorem boot_any_ : bootBuiltins "any" = some (.builtin "any") := by decide +kernel
theorem boot_min_ : bootBuiltins "min" = some (.builtin "min") := by decide +kernel
theorem boot_max_ : bootBuiltins "max" = some (.builtin "max") := by decide +kernel
theorem boot_int_ : bootBuiltins "int" = some (.type "int") := by decide +kernel
theorem boot_bool_ : bootBuiltins "bool" = some (.type "bool") := by decide +kernel
theorem boot_tuple_ : bootBuiltins "tuple" = some (.type "tuple") := by decide +kernel
theorem hu65 {A : Around} {k : Nat} (hr : Room k A) : A.units + 65 < cLine := by
  have h := hr.un
  omega
theorem cal_false {P : Program} {w : World} {K : PySem.W.Frag} {mg : Str → Option Value} {base : Heap} {x q : Str} {st : Stmt} {ps : List Str} (d : Def K mg x q st ps) : Cal P w K mg base x 0 ps (fun _ _ => False) := by
  obtain ⟨f, fd, F, m, b⟩ := d
  exact ⟨f, fd, ⟨fun vs H Q E ⟨_, _, _, _, _, h, _⟩ => h.elim, fun A outer s H args us vs Q E hr he hb hv ⟨_, _, _, _, _, h, _⟩ => h.elim⟩, m, F.kp, b⟩
/-! ### data of numbers -/
def eQ (q : Rat) : D := .tup [.int q.num, .int (q.den : Int)]
def eR (r : Rat × Rat) : D := .tup [eQ r.1, eQ r.2]
def eW : Wd → D
  | .to => .str "to"
  | .frm => .str "from"
  | .rnd => .str "round"
  | .un => .non
def eF : Fam → D
  | .corner => .str "corner"
  | .inner => .str "inner"
  | .round => .str "round"
def eRs (c : CS) : List D := if c.w = .to then [eR c.r0] else [eR c.r0, eR c.r1]
def eCS (c : CS) : D := .tup [eW c.w, .tup (eRs c)]
def eCell (c : Cell) : D := .tup (c.map eCS)
def lCS (c : CS) : D := .tup [eW c.w, .lst (eRs c)]
def lCell (c : Cell) : D := .lst (c.map lCS)
def ePt (p : Pt) : D := .tup (p.map eQ)
def ePts (p : List Pt) : D := .tup (p.map ePt)
def eBit (q : Bool) : D := .int (if q = true then 1 else 0)
def eTr : Tr → D
  | .leaf => .tup []
  | .cut s q a P Q => .tup [.str "cut", .int (s : Int), eBit q, eQ a, eTr P, eTr Q]
  | .ways s P Q => .tup [.str "ways", .int (s : Int), eTr P, eTr Q]
def eBS (s : BS) : D := if s.w = .to then .tup [eW s.w, eQ s.a] else .tup [eW s.w, eQ s.a, eQ s.b]
def eBox (b : Box) : D := .tup (b.map eBS)
theorem char_toNat_inj : Function.Injective Char.toNat := fun a b h => Char.ext (UInt32.toNat_inj.mp h)
@[simp] theorem str_inj {a b : String} : (Str.ofString a = Str.ofString b) ↔ a = b := by
  refine ⟨fun h => ?_, fun h => h ▸ rfl⟩
  rw [Str.ofString_eq_toList, Str.ofString_eq_toList] at h
  have h2 : (a.toList.map Char.toNat) = b.toList.map Char.toNat := by simpa using h
  exact String.toList_inj.mp ((List.map_inj_right (fun x y h => char_toNat_inj h)).mp h2)
@[simp] theorem and_asc {a b c : Prop} : (a ∧ b) ∧ c ↔ a ∧ b ∧ c := and_assoc
@[simp] theorem isNon_non : DL.isNon .non = true := rfl
@[simp] theorem isNon_int (i : Int) : DL.isNon (.int i) = false := rfl
@[simp] theorem isNon_str (i : Str) : DL.isNon (.str i) = false := rfl
@[simp] theorem isNon_bl (i : Bool) : DL.isNon (.bl i) = false := rfl
@[simp] theorem isNon_tup (i : List D) : DL.isNon (.tup i) = false := rfl
@[simp] theorem isNon_lst (i : List D) : DL.isNon (.lst i) = false := rfl
@[simp] theorem isNon_eW (w : Wd) : DL.isNon (eW w) = decide (w = .un) := by cases w <;> rfl
@[simp] theorem isNon_eTr (T : Tr) : DL.isNon (eTr T) = false := by cases T <;> rfl
@[simp] theorem argS_int (i : Int) : argS (.int i) = .val (.int i) := rfl
@[simp] theorem argS_non : argS .non = .val .non := rfl
@[simp] theorem argS_bl (i : Bool) : argS (.bl i) = .val (.bl i) := rfl
@[simp] theorem argS_str (i : Str) : argS (.str i) = .val (.str i) := rfl
@[simp] theorem argS_tup (i : List D) : argS (.tup i) = .val (.tup i) := rfl
@[simp] theorem argS_lst (i : List D) : argS (.lst i) = .val (.lst i) := rfl
@[simp] theorem argS_ord (i : List Int) : argS (.ord i) = .val (.ord i) := rfl
@[simp] theorem argS_feed : argS .feed = .feed := rfl
@[simp] theorem argS_eQ (q : Rat) : argS (eQ q) = .val (eQ q) := rfl
@[simp] theorem argS_eR (q : Rat × Rat) : argS (eR q) = .val (eR q) := rfl
@[simp] theorem argS_eW (q : Wd) : argS (eW q) = .val (eW q) := by cases q <;> rfl
@[simp] theorem argS_eF (q : Fam) : argS (eF q) = .val (eF q) := by cases q <;> rfl
@[simp] theorem argS_eCS (q : CS) : argS (eCS q) = .val (eCS q) := rfl
@[simp] theorem argS_eCell (q : Cell) : argS (eCell q) = .val (eCell q) := rfl
@[simp] theorem argS_lCS (q : CS) : argS (lCS q) = .val (lCS q) := rfl
@[simp] theorem argS_lCell (q : Cell) : argS (lCell q) = .val (lCell q) := rfl
@[simp] theorem argS_ePt (q : Pt) : argS (ePt q) = .val (ePt q) := rfl
@[simp] theorem argS_ePts (q : List Pt) : argS (ePts q) = .val (ePts q) := rfl
@[simp] theorem argS_eBS (q : BS) : argS (eBS q) = .val (eBS q) := by unfold eBS; split <;> rfl
@[simp] theorem argS_eBox (q : Box) : argS (eBox q) = .val (eBox q) := rfl
@[simp] theorem argS_eBit (q : Bool) : argS (eBit q) = .val (eBit q) := rfl
@[simp] theorem argS_eTr (q : Tr) : argS (eTr q) = .val (eTr q) := by cases q <;> rfl
theorem rat_ext {a b : Rat} (h1 : a.num = b.num) (h2 : (a.den : Int) = b.den) : a = b := Rat.ext h1 (by exact_mod_cast h2)
@[simp] theorem eQ_inj {a b : Rat} : eQ a = eQ b ↔ a = b := ⟨fun h => by unfold eQ at h; simp only [D.tup.injEq, List.cons.injEq, D.int.injEq, and_true] at h; exact rat_ext h.1 h.2, fun h => h ▸ rfl⟩
@[simp] theorem eR_inj {a b : Rat × Rat} : eR a = eR b ↔ a = b := ⟨fun h => by unfold eR at h; simp only [D.tup.injEq, List.cons.injEq, eQ_inj, and_true] at h; exact Prod.ext h.1 h.2, fun h => h ▸ rfl⟩
@[simp] theorem eW_inj {a b : Wd} : eW a = eW b ↔ a = b := ⟨fun h => by cases a <;> cases b <;> simp [eW] at h <;> rfl, fun h => h ▸ rfl⟩
@[simp] theorem eF_inj {a b : Fam} : eF a = eF b ↔ a = b := ⟨fun h => by cases a <;> cases b <;> simp [eF] at h <;> rfl, fun h => h ▸ rfl⟩
@[simp] theorem ix_eQ0 (q : Rat) : ixD (eQ q) (.int 0) = some (.int q.num) := rfl
@[simp] theorem ix_eQ1 (q : Rat) : ixD (eQ q) (.int 1) = some (.int q.den) := rfl
@[simp] theorem isNon_eQ (q : Rat) : DL.isNon (eQ q) = false := rfl
@[simp] theorem plain_eQ (n : Nat) (q : Rat) : plainD (n + 1) (eQ q) = true := by cases n <;> rfl
theorem pyD_eQ (q : Rat) : pyD (eQ q) = .tuple [.int q.num, .int q.den] := by simp [eQ, pyD, pyDs]
@[simp] theorem eqv_eQ (a b : Rat) : PyData.eqv (pyD (eQ a)) (pyD (eQ b)) = decide (a = b) := by
  rw [pyD_eQ, pyD_eQ]
  by_cases h : a = b
  · subst h; simp [PyData.eqv, PyData.eqvAll]
  · have : ¬ (a.num = b.num ∧ (a.den : Int) = b.den) := fun ⟨h1, h2⟩ => h (rat_ext h1 h2)
    simp only [h, decide_false]
    simp [PyData.eqv, PyData.eqvAll]
    intro h1 h2
    exact this ⟨h1, by exact_mod_cast h2⟩
end EP

set_option Elab.async false
set_option linter.all false
set_option maxRecDepth 100000
set_option maxHeartbeats 4000000
namespace EP
open PySem PySem.Spec PyProof.Rows L2 DL
section
variable {P : Program} {w : World} {K : PySem.W.Frag} {mg : Str → Option Value} {base : Heap}
abbrev sShared : Stmt := topS 9
theorem scShared : FnScope ["one", "other"] ["one", "other"] (defScope sShared) := ⟨rfl, rfl, rfl, by decide +kernel, rfl, by decide +kernel, by decide +kernel⟩
@[simp] def cShared : Ct := fun ds F => ∃ a b : Int, ds = [.int a, .int b] ∧ 0 ≤ a ∧ 0 ≤ b ∧ F (.int (Int.gcd a b))
theorem gcd_mod {a b : Int} (ha : 0 ≤ a) (hb : 0 ≤ b) : Int.gcd b (a % b) = Int.gcd a b := by
  obtain ⟨n, rfl⟩ := Int.eq_ofNat_of_zero_le ha
  obtain ⟨m, rfl⟩ := Int.eq_ofNat_of_zero_le hb
  show Nat.gcd m (n % m) = Nat.gcd n m
  rw [Nat.gcd_comm n m, Nat.gcd_comm m (n % m)]
  exact (Nat.gcd_rec m n).symm
theorem ok_shared (d : Def K mg "shared" "shared" sShared ["one", "other"]) : Cal P w K mg base "shared" 1 ["one", "other"] cShared := by
  refine cal_of d scShared ?len ⟨_, fun f cdv A outer s H E hr => (dss_cons (ds_while PassesOwn.never (dt_cmp op_ne l_ne (de_var 1) de_int)
      (dss_one (ds_par 0 1 rfl scShared.nd (da_cons (de_var 1) (da_cons (de_op op_mod l_I (de_var 0) (de_var 1)) da_nil)))))
      (dss_one (ds_ret (de_var 0)))), ?c⟩
  case len =>
    intro ds G h
    simp only [cShared] at h
    repeat obtain ⟨_, h⟩ := h
    simp [*]
  case c =>
    intro ds G h0
    obtain ⟨a, b, rfl, ha, hb, h⟩ := h0
    refine ⟨fun m ρ => ∃ a' b' : Int, ρ = [some (.val (.int a')), some (.val (.int b'))] ∧ 0 ≤ a' ∧ 0 ≤ b' ∧ m = b'.toNat ∧ Int.gcd a' b' = Int.gcd a b, ⟨_, a, b, rfl, ha, hb, rfl, rfl⟩, ?_⟩
    rintro m ρ ⟨a', b', rfl, ha', hb', rfl, hg⟩
    by_cases c : b' = 0
    rotate_left
    · simp [c, and_assoc]
      refine ⟨by omega, _, ?_, hb', Int.emod_nonneg a' (by omega), rfl, by rw [gcd_mod ha' hb', hg]⟩
      have := Int.emod_lt_of_pos a' (show 0 < b' by omega)
      have := Int.emod_nonneg a' (show b' ≠ 0 by omega)
      omega
    · subst c
      simp
      have e : (a' : Int) = ((Int.gcd a b : Nat) : Int) := by
        rw [← hg, Int.gcd_zero_right]
        omega
      rw [e]
      exact h
abbrev sFraction : Stmt := topS 11
theorem scFraction : FnScope ["top", "bottom", "by"] ["top", "bottom"] (defScope sFraction) := ⟨rfl, rfl, rfl, by decide +kernel, rfl, by decide +kernel, by decide +kernel⟩
@[simp] def cFraction : Ct := fun ds F => ∃ (t b : Int), ds = [.int t, .int b] ∧ 0 < b ∧ t.natAbs < 2 ^ 8900 ∧ b.natAbs < 2 ^ 8900 ∧ F (eQ (mkRat t b.toNat))
theorem frac_num {t b : Int} (hb : 0 < b) : t / ((Int.gcd t b : Nat) : Int) = (mkRat t b.toNat).num := by
  obtain ⟨m, rfl⟩ := Int.eq_ofNat_of_zero_le (Int.le_of_lt hb)
  have hm : m ≠ 0 := by omega
  rw [Rat.num_mkRat, if_neg (by simpa using hm), Nat.gcd_comm]
  rfl
theorem frac_den {t b : Int} (hb : 0 < b) : b / ((Int.gcd t b : Nat) : Int) = ((mkRat t b.toNat).den : Int) := by
  obtain ⟨m, rfl⟩ := Int.eq_ofNat_of_zero_le (Int.le_of_lt hb)
  have hm : m ≠ 0 := by omega
  rw [Rat.den_mkRat, if_neg (by simpa using hm), Nat.gcd_comm]
  rfl
theorem log_lt {n k : Nat} (hk : 0 < k) (h : n < 2 ^ k) : n.log2 < k := by
  by_cases hn : n = 0
  · subst hn; simpa using hk
  · exact (Nat.log2_lt hn).mpr h
theorem gcd_ok {t b : Int} (hb : 0 < b) (h : b.natAbs < 2 ^ 8900) : CDivW t ((Int.gcd t b : Nat) : Int) := by
  have h1 : 0 < Int.gcd t b := Int.gcd_pos_of_ne_zero_right _ (by omega)
  refine ⟨by exact_mod_cast h1, ?_⟩
  refine Nat.lt_trans (log_lt (k := 8900) (by decide) ?_) (by decide)
  rw [Int.natAbs_natCast]
  refine Nat.lt_of_le_of_lt (Nat.le_of_dvd (by omega) ?_) h
  have := Int.gcd_dvd_right (a := t) (b := b)
  exact Int.ofNat_dvd_left.mp this
theorem abs_gcd {t b : Int} : Int.gcd (if t < 0 then -t else t) (if b < 0 then -b else b) = Int.gcd t b := by
  split <;> split <;> simp
theorem ok_fraction (d : Def K mg "fraction" "fraction" sFraction ["top", "bottom"]) (B : Blt mg) (c_shared : Cal P w K mg base "shared" 1 ["one", "other"] cShared) : Cal P w K mg base "fraction" 2 ["top", "bottom"] cFraction := by
  refine cal_of d scFraction ?len ⟨_, fun f cdv A outer s H E hr => (dss_cons (ds_if (dt_cmp op_eq l_eq (de_var 1) de_int)
      (dss_one ds_never)
      dss_nil)
      (dss_cons (ds_set 2 scFraction.nd (de_fn c_shared hr (df_cons (de_callB call_abs l_abs B.abs boot_abs_ (da_cons (de_var 0) da_nil)) (df_cons (de_callB call_abs l_abs B.abs boot_abs_ (da_cons (de_var 1) da_nil)) df_nil))))
      (dss_cons (ds_if (dt_cmp op_lt l_B0 (de_var 1) de_int)
      (dss_one (ds_set 2 scFraction.nd (de_un un_neg l_neg (de_var 2))))
      dss_nil)
      (dss_one (ds_ret (de_tup (da_cons (de_op op_fdivW l_I (de_var 0) (de_var 2)) (da_cons (de_op op_fdivW l_I (de_var 1) (de_var 2)) da_nil)))))))), ?c⟩
  case len =>
    intro ds G h
    simp only [cFraction] at h
    repeat obtain ⟨_, h⟩ := h
    simp [*]
  case c =>
    intro ds G h0
    obtain ⟨t, b, rfl, hb, ht, hbn, h⟩ := h0
    have hh : G (.tup [.int (mkRat t b.toNat).num, .int ((mkRat t b.toNat).den : Int)]) := h
    have e1 : ¬ b = 0 := by omega
    have e2 : ¬ b < 0 := by omega
    have hg := gcd_ok (t := t) hb hbn
    have hg2 : Int.gcd (if t < 0 then -t else t) b = Int.gcd t b := by split <;> simp
    have h0 : 0 ≤ (if t < 0 then -t else t) := by split <;> omega
    have h1 : 0 ≤ b := by omega
    rw [← frac_num hb, ← frac_den hb] at hh
    simp [e1, e2, hg2, and_assoc, h0, h1, hg, show CDivW b _ from hg, hh]
abbrev sPlus : Stmt := topS 12
theorem scPlus : FnScope ["one", "other"] ["one", "other"] (defScope sPlus) := ⟨rfl, rfl, rfl, by decide +kernel, rfl, by decide +kernel, by decide +kernel⟩
def Sz (q : Rat) : Prop := Sm 1000 q
@[simp] def cPlus : Ct := fun ds F => ∃ a b : Rat, ds = [eQ a, eQ b] ∧ Sz a ∧ Sz b ∧ F (eQ (a + b))
theorem mul_ok {a b : Int} {n m : Nat} (ha : a.natAbs < 2 ^ n) (hb : b.natAbs < 2 ^ m) (h0 : 0 < n) (h1 : 0 < m) (h : n + m < 100000) : CMulW a b := by
  have h1 := log_lt (by omega) ha
  have h2 := log_lt (by omega) hb
  show _ < _
  omega
theorem sz_mul {a b : Rat} (ha : Sz a) (hb : Sz b) : CMulW a.num b.den ∧ CMulW b.num a.den ∧ CMulW a.den b.den ∧ CMulW a.num b.num := by
  refine ⟨mul_ok ha.1 (m := 1000) ?_ ?_ ?_ ?_, mul_ok hb.1 (m := 1000) ?_ ?_ ?_ ?_, mul_ok (n := 1000) ?_ (m := 1000) ?_ ?_ ?_ ?_, mul_ok ha.1 hb.1 ?_ ?_ ?_⟩ <;> first | omega | (rw [Int.natAbs_natCast]; exact ha.2) | (rw [Int.natAbs_natCast]; exact hb.2)
theorem sz_den {a b : Rat} (ha : Sz a) (hb : Sz b) : ((a.den : Int) * b.den).natAbs < 2 ^ 8900 ∧ (0 : Int) < a.den * b.den ∧ ((a.den : Int) * b.den).toNat = a.den * b.den := by
  refine ⟨?_, ?_, ?_⟩
  · rw [← Int.natCast_mul, Int.natAbs_natCast]
    exact Nat.lt_trans (mul_lt_pow ha.2 hb.2) (Nat.pow_lt_pow_right (by decide) (by decide))
  · have := a.den_pos
    have := b.den_pos
    exact Int.mul_pos (by omega) (by omega)
  · rw [← Int.natCast_mul]
    rfl
theorem sz_cross {a b : Rat} (ha : Sz a) (hb : Sz b) : (a.num * b.den + b.num * a.den).natAbs < 2 ^ 8900 ∧ (a.num * b.den - b.num * a.den).natAbs < 2 ^ 8900 ∧ (a.num * b.num).natAbs < 2 ^ 8900 := by
  obtain ⟨h1, h2⟩ := cross_lt ha hb
  refine ⟨?_, ?_, ?_⟩
  · exact Nat.lt_trans (natAbs_add_lt h1 h2) (Nat.pow_lt_pow_right (by decide) (by decide))
  · exact Nat.lt_trans (natAbs_sub_lt h1 h2) (Nat.pow_lt_pow_right (by decide) (by decide))
  · exact Nat.lt_trans (natAbs_mul_lt ha.1 hb.1) (Nat.pow_lt_pow_right (by decide) (by decide))
theorem ok_plus (d : Def K mg "plus" "plus" sPlus ["one", "other"]) (c_fraction : Cal P w K mg base "fraction" 2 ["top", "bottom"] cFraction) : Cal P w K mg base "plus" 3 ["one", "other"] cPlus := by
  refine cal_of d scPlus ?len ⟨_, fun f cdv A outer s H E hr => (dss_one (ds_ret (de_fn c_fraction hr (df_cons (de_op op_add l_I0 (de_op op_mulW l_I (de_ix ix_any l_ix (de_var 0) de_int) (de_ix ix_any l_ix (de_var 1) de_int)) (de_op op_mulW l_I (de_ix ix_any l_ix (de_var 1) de_int) (de_ix ix_any l_ix (de_var 0) de_int))) (df_cons (de_op op_mulW l_I (de_ix ix_any l_ix (de_var 0) de_int) (de_ix ix_any l_ix (de_var 1) de_int)) df_nil))))), ?c⟩
  case len =>
    intro ds G h
    simp only [cPlus] at h
    repeat obtain ⟨_, h⟩ := h
    simp [*]
  case c =>
    intro ds G h0
    obtain ⟨a, b, rfl, ha, hb, h⟩ := h0
    have h1 := sz_mul ha hb
    have h2 := sz_den ha hb
    have h3 := sz_cross ha hb
    rw [Rat.add_def'] at h
    simp [h1, h2, h3, h]
abbrev sLess : Stmt := topS 13
theorem scLess : FnScope ["one", "other"] ["one", "other"] (defScope sLess) := ⟨rfl, rfl, rfl, by decide +kernel, rfl, by decide +kernel, by decide +kernel⟩
@[simp] def cLess : Ct := fun ds F => ∃ a b : Rat, ds = [eQ a, eQ b] ∧ Sz a ∧ Sz b ∧ F (eQ (a - b))
theorem ok_less (d : Def K mg "less" "less" sLess ["one", "other"]) (c_fraction : Cal P w K mg base "fraction" 2 ["top", "bottom"] cFraction) : Cal P w K mg base "less" 3 ["one", "other"] cLess := by
  refine cal_of d scLess ?len ⟨_, fun f cdv A outer s H E hr => (dss_one (ds_ret (de_fn c_fraction hr (df_cons (de_op op_sub l_I0 (de_op op_mulW l_I (de_ix ix_any l_ix (de_var 0) de_int) (de_ix ix_any l_ix (de_var 1) de_int)) (de_op op_mulW l_I (de_ix ix_any l_ix (de_var 1) de_int) (de_ix ix_any l_ix (de_var 0) de_int))) (df_cons (de_op op_mulW l_I (de_ix ix_any l_ix (de_var 0) de_int) (de_ix ix_any l_ix (de_var 1) de_int)) df_nil))))), ?c⟩
  case len =>
    intro ds G h
    simp only [cLess] at h
    repeat obtain ⟨_, h⟩ := h
    simp [*]
  case c =>
    intro ds G h0
    obtain ⟨a, b, rfl, ha, hb, h⟩ := h0
    have h1 := sz_mul ha hb
    have h2 := sz_den ha hb
    have h3 := sz_cross ha hb
    rw [Rat.sub_def'] at h
    simp [h1, h2, h3, h]
abbrev sTimes : Stmt := topS 14
theorem scTimes : FnScope ["one", "other"] ["one", "other"] (defScope sTimes) := ⟨rfl, rfl, rfl, by decide +kernel, rfl, by decide +kernel, by decide +kernel⟩
@[simp] def cTimes : Ct := fun ds F => ∃ a b : Rat, ds = [eQ a, eQ b] ∧ Sz a ∧ Sz b ∧ F (eQ (a * b))
theorem ok_times (d : Def K mg "times" "times" sTimes ["one", "other"]) (c_fraction : Cal P w K mg base "fraction" 2 ["top", "bottom"] cFraction) : Cal P w K mg base "times" 3 ["one", "other"] cTimes := by
  refine cal_of d scTimes ?len ⟨_, fun f cdv A outer s H E hr => (dss_one (ds_ret (de_fn c_fraction hr (df_cons (de_op op_mulW l_I (de_ix ix_any l_ix (de_var 0) de_int) (de_ix ix_any l_ix (de_var 1) de_int)) (df_cons (de_op op_mulW l_I (de_ix ix_any l_ix (de_var 0) de_int) (de_ix ix_any l_ix (de_var 1) de_int)) df_nil))))), ?c⟩
  case len =>
    intro ds G h
    simp only [cTimes] at h
    repeat obtain ⟨_, h⟩ := h
    simp [*]
  case c =>
    intro ds G h0
    obtain ⟨a, b, rfl, ha, hb, h⟩ := h0
    have h1 := sz_mul ha hb
    have h2 := sz_den ha hb
    have h3 := sz_cross ha hb
    rw [Rat.mul_def'] at h
    simp [h1, h2, h3, h]
abbrev sIsBelow : Stmt := topS 15
theorem scIsBelow : FnScope ["one", "other"] ["one", "other"] (defScope sIsBelow) := ⟨rfl, rfl, rfl, by decide +kernel, rfl, by decide +kernel, by decide +kernel⟩
@[simp] def cBelow : Ct := fun ds F => ∃ a b : Rat, ds = [eQ a, eQ b] ∧ Sz a ∧ Sz b ∧ F (.bl (decide (a < b)))
theorem lt_rat {a b : Rat} : (a.num * b.den < b.num * a.den) ↔ a < b := (Rat.lt_iff a b).symm
theorem ok_is_below (d : Def K mg "is_below" "is_below" sIsBelow ["one", "other"]) : Cal P w K mg base "is_below" 1 ["one", "other"] cBelow := by
  refine cal_of d scIsBelow ?len ⟨_, fun f cdv A outer s H E hr => (dss_one (ds_ret (de_cmp op_lt l_B0 (de_op op_mulW l_I (de_ix ix_any l_ix (de_var 0) de_int) (de_ix ix_any l_ix (de_var 1) de_int)) (de_op op_mulW l_I (de_ix ix_any l_ix (de_var 1) de_int) (de_ix ix_any l_ix (de_var 0) de_int))))), ?c⟩
  case len =>
    intro ds G h
    simp only [cBelow] at h
    repeat obtain ⟨_, h⟩ := h
    simp [*]
  case c =>
    intro ds G h0
    obtain ⟨a, b, rfl, ha, hb, h⟩ := h0
    have h1 := sz_mul ha hb
    simp [h1, lt_rat, h]
end
end EP

set_option Elab.async false
set_option linter.all false
set_option maxRecDepth 100000
set_option maxHeartbeats 4000000
namespace EP
open PySem PySem.Spec PyProof.Rows L2 DL
@[simp] theorem sz0 : Sz 0 := Sm.mono sm_zero (by decide)
@[simp] theorem sz1 : Sz 1 := Sm.mono sm_one (by decide)
@[simp] theorem szm1 : Sz (-1) := Sm.mono sm_neg (by decide)
def CSm (c : CS) : Prop := Sm 50 c.r0.1 ∧ Sm 50 c.r0.2 ∧ Sm 50 c.r1.1 ∧ Sm 50 c.r1.2
theorem sm_sz {q : Rat} {n : Nat} (h : Sm n q) (hn : n ≤ 1000 := by decide) : Sz q := Sm.mono h hn
theorem sm_m0 {q : Rat} {n : Nat} (h : Sm n q) (hn : 1 ≤ n := by decide) : Sm n (m0 q) := by
  unfold m0
  split
  · exact Sm.mono sm_zero hn
  · exact h
theorem sm_between {w : Wd} {a b : Rat} (ha : Sm 50 a) (hb : Sm 50 b) : Sm 110 (between w a b) := by
  unfold between
  have h1 := Sm.add (Sm.sub sm_one (sm_m0 ha)) (sm_m0 hb)
  split
  · exact Sm.mono (sm_m0 (Sm.sub (sm_m0 hb) (sm_m0 ha))) (by decide)
  · split
    · exact Sm.mono sm_one (by decide)
    · exact Sm.mono h1 (by decide)
theorem sm_lo {c : CS} (h : CSm c) : Sm 110 c.lo := by
  unfold CS.lo
  split
  · exact Sm.mono (sm_m0 h.1) (by decide)
  · exact sm_between h.2.1 h.2.2.1
theorem sm_hi {c : CS} (h : CSm c) : Sm 110 c.hi := by
  unfold CS.hi
  split
  · exact Sm.mono (sm_m0 h.2.1) (by decide)
  · exact sm_between h.1 h.2.2.2
@[simp] theorem ix_eR0 (r : Rat × Rat) : ixD (eR r) (.int 0) = some (eQ r.1) := rfl
@[simp] theorem ix_eR1 (r : Rat × Rat) : ixD (eR r) (.int 1) = some (eQ r.2) := rfl
@[simp] theorem ix0 (a : D) (l : List D) : ixD (.tup (a :: l)) (.int 0) = some a := by
  show atI (a :: l) 0 = some a
  unfold atI ixN
  have : (0 : Int) < ((l.length + 1 : Nat) : Int) := by omega
  simp [this]
@[simp] theorem ix0l (a : D) (l : List D) : ixD (.lst (a :: l)) (.int 0) = some a := ix0 a l
@[simp] theorem ix1 (a b : D) (l : List D) : ixD (.tup (a :: b :: l)) (.int 1) = some b := by
  show atI (a :: b :: l) 1 = some b
  unfold atI ixN
  have : (1 : Int) < (l.length : Int) + 1 + 1 := by omega
  simp [this]
@[simp] theorem ix1l (a b : D) (l : List D) : ixD (.lst (a :: b :: l)) (.int 1) = some b := ix1 a b l
@[simp] theorem tupR (r : Rat × Rat) (x : List D) : (eR r = .tup x) ↔ x = [eQ r.1, eQ r.2] := by unfold eR; simp [eq_comm]
@[simp] theorem tupQ (r : Rat) (x : List D) : (eQ r = .tup x) ↔ x = [.int r.num, .int r.den] := by unfold eQ; simp [eq_comm]
section
variable {P : Program} {w : World} {K : PySem.W.Frag} {mg : Str → Option Value} {base : Heap}
abbrev sFromNought : Stmt := topS 20
theorem scFromNought : FnScope ["x"] ["x"] (defScope sFromNought) := ⟨rfl, rfl, rfl, by decide +kernel, rfl, by decide +kernel, by decide +kernel⟩
@[simp] def cNought : Ct := fun ds F => ∃ a : Rat, ds = [eQ a] ∧ Sz a ∧ F (eQ (m0 a))
theorem ok_from_nought_cells (d : Def K mg "from_nought_cells" "from_nought" sFromNought ["x"]) (k_NOUGHT_cells : Con K mg "NOUGHT_cells" (eQ 0)) (c_is_below : Cal P w K mg base "is_below" 1 ["one", "other"] cBelow) : Cal P w K mg base "from_nought_cells" 2 ["x"] cNought := by
  refine cal_of d scFromNought ?len ⟨_, fun f cdv A outer s H E hr => (dss_one (ds_ret (de_if (dt_val (de_fn c_is_below hr (df_cons (de_var 0) (df_cons (de_con k_NOUGHT_cells) df_nil)))) (de_con k_NOUGHT_cells) (de_var 0)))), ?c⟩
  case len =>
    intro ds G h
    simp only [cNought] at h
    repeat obtain ⟨_, h⟩ := h
    simp [*]
  case c =>
    intro ds G h0
    obtain ⟨a, rfl, h1, h⟩ := h0
    unfold m0 at h
    by_cases c : a < 0 <;> simp [h1, c] at h ⊢ <;> exact h
abbrev sFromNought2 : Stmt := topS 45
theorem scFromNought2 : FnScope ["one"] ["one"] (defScope sFromNought2) := ⟨rfl, rfl, rfl, by decide +kernel, rfl, by decide +kernel, by decide +kernel⟩
theorem ok_from_nought_boxes (d : Def K mg "from_nought_boxes" "from_nought" sFromNought2 ["one"]) (k_NOUGHT_fractions : Con K mg "NOUGHT_fractions" (eQ 0)) (c_is_below : Cal P w K mg base "is_below" 1 ["one", "other"] cBelow) : Cal P w K mg base "from_nought_boxes" 2 ["one"] cNought := by
  refine cal_of d scFromNought2 ?len ⟨_, fun f cdv A outer s H E hr => (dss_one (ds_ret (de_if (dt_val (de_fn c_is_below hr (df_cons (de_var 0) (df_cons (de_con k_NOUGHT_fractions) df_nil)))) (de_con k_NOUGHT_fractions) (de_var 0)))), ?c⟩
  case len =>
    intro ds G h
    simp only [cNought] at h
    repeat obtain ⟨_, h⟩ := h
    simp [*]
  case c =>
    intro ds G h0
    obtain ⟨a, rfl, h1, h⟩ := h0
    unfold m0 at h
    by_cases c : a < 0 <;> simp [h1, c] at h ⊢ <;> exact h
abbrev sIsSurely : Stmt := topS 22
theorem scIsSurely : FnScope ["x", "word", "ranges", "behind_first", "ahead_of_last"] ["x", "word", "ranges"] (defScope sIsSurely) := ⟨rfl, rfl, rfl, by decide +kernel, rfl, by decide +kernel, by decide +kernel⟩
@[simp] def cSurely : Ct := fun ds F => ∃ (x : Rat) (c : CS), ds = [eQ x, eW c.w, .tup (eRs c)] ∧ Sm 50 x ∧ CSm c ∧ c.w ≠ .un ∧ F (.bl (c.sure x))
theorem ok_is_surely (d : Def K mg "is_surely" "is_surely" sIsSurely ["x", "word", "ranges"]) (c_is_below : Cal P w K mg base "is_below" 1 ["one", "other"] cBelow) : Cal P w K mg base "is_surely" 2 ["x", "word", "ranges"] cSurely := by
  refine cal_of d scIsSurely ?len ⟨_, fun f cdv A outer s H E hr => (dss_cons (ds_if (dt_cmp op_eq l_eq (de_var 1) de_str)
      (dss_one (ds_ret (de_not (de_fn c_is_below hr (df_cons (de_ix ix_any l_ix (de_ix ix_any l_ix (de_var 2) de_int) de_int) (df_cons (de_var 0) df_nil))))))
      dss_nil)
      (dss_cons (ds_set 3 scIsSurely.nd (de_not (de_fn c_is_below hr (df_cons (de_var 0) (df_cons (de_ix ix_any l_ix (de_ix ix_any l_ix (de_var 2) de_int) de_int) df_nil)))))
      (dss_cons (ds_set 4 scIsSurely.nd (de_not (de_fn c_is_below hr (df_cons (de_ix ix_any l_ix (de_ix ix_any l_ix (de_var 2) de_int) de_int) (df_cons (de_var 0) df_nil)))))
      (dss_cons (ds_if (dt_cmp op_eq l_eq (de_var 1) de_str)
      (dss_one (ds_ret (de_and (de_var 3) (de_one (de_var 4)))))
      dss_nil)
      (dss_one (ds_ret (de_or (de_var 3) (de_one (de_var 4))))))))), ?c⟩
  case len =>
    intro ds G h
    simp only [cSurely] at h
    repeat obtain ⟨_, h⟩ := h
    simp [*]
  case c =>
    intro ds G h0
    obtain ⟨x, ⟨w, r0, r1⟩, rfl, h1, ⟨h2, h3, h4, h5⟩, hw, h⟩ := h0
    have h1 := sm_sz h1
    have h2 := sm_sz h2
    have h3 := sm_sz h3
    have h4 := sm_sz h4
    have h5 := sm_sz h5
    cases w <;> simp [eW, eRs, CS.sure, h1, h2, h3, h4, h5] at h2 h3 h4 h5 hw h ⊢
    · simpa using h
    all_goals
      by_cases c : x < r0.2 <;> by_cases c2 : r1.1 < x <;> simpa [c, c2] using h
abbrev sIsPerhaps : Stmt := topS 23
theorem scIsPerhaps : FnScope ["x", "word", "ranges", "behind_first", "ahead_of_last"] ["x", "word", "ranges"] (defScope sIsPerhaps) := ⟨rfl, rfl, rfl, by decide +kernel, rfl, by decide +kernel, by decide +kernel⟩
@[simp] def cPerhaps : Ct := fun ds F => ∃ (x : Rat) (c : CS), ds = [eQ x, eW c.w, .tup (eRs c)] ∧ Sm 50 x ∧ CSm c ∧ c.w ≠ .un ∧ F (.bl (c.maybe x))
theorem ok_is_perhaps (d : Def K mg "is_perhaps" "is_perhaps" sIsPerhaps ["x", "word", "ranges"]) (c_is_below : Cal P w K mg base "is_below" 1 ["one", "other"] cBelow) : Cal P w K mg base "is_perhaps" 2 ["x", "word", "ranges"] cPerhaps := by
  refine cal_of d scIsPerhaps ?len ⟨_, fun f cdv A outer s H E hr => (dss_cons (ds_if (dt_cmp op_eq l_eq (de_var 1) de_str)
      (dss_one (ds_ret (de_fn c_is_below hr (df_cons (de_var 0) (df_cons (de_ix ix_any l_ix (de_ix ix_any l_ix (de_var 2) de_int) de_int) df_nil)))))
      dss_nil)
      (dss_cons (ds_set 3 scIsPerhaps.nd (de_fn c_is_below hr (df_cons (de_ix ix_any l_ix (de_ix ix_any l_ix (de_var 2) de_int) de_int) (df_cons (de_var 0) df_nil))))
      (dss_cons (ds_set 4 scIsPerhaps.nd (de_fn c_is_below hr (df_cons (de_var 0) (df_cons (de_ix ix_any l_ix (de_ix ix_any l_ix (de_var 2) de_int) de_int) df_nil))))
      (dss_cons (ds_if (dt_cmp op_eq l_eq (de_var 1) de_str)
      (dss_one (ds_ret (de_and (de_var 3) (de_one (de_var 4)))))
      dss_nil)
      (dss_one (ds_ret (de_or (de_var 3) (de_one (de_var 4))))))))), ?c⟩
  case len =>
    intro ds G h
    simp only [cPerhaps] at h
    repeat obtain ⟨_, h⟩ := h
    simp [*]
  case c =>
    intro ds G h0
    obtain ⟨x, ⟨w, r0, r1⟩, rfl, h1, ⟨h2, h3, h4, h5⟩, hw, h⟩ := h0
    have h1 := sm_sz h1
    have h2 := sm_sz h2
    have h3 := sm_sz h3
    have h4 := sm_sz h4
    have h5 := sm_sz h5
    cases w <;> simp [eW, eRs, CS.maybe, h1, h2, h3, h4, h5] at h2 h3 h4 h5 hw h ⊢
    · simpa using h
    all_goals
      by_cases c : r0.1 < x <;> by_cases c2 : x < r1.2 <;> simpa [c, c2] using h
abbrev sSideBetween : Stmt := topS 24
theorem scSideBetween : FnScope ["word", "first", "last", "a", "b", "found"] ["word", "first", "last"] (defScope sSideBetween) := ⟨rfl, rfl, rfl, by decide +kernel, rfl, by decide +kernel, by decide +kernel⟩
@[simp] def cBetween : Ct := fun ds F => ∃ (w : Wd) (a b : Rat), ds = [eW w, eQ a, eQ b] ∧ Sm 50 a ∧ Sm 50 b ∧ w ≠ .un ∧ F (eQ (between w a b))
theorem ok_side_between (d : Def K mg "side_between" "side_between" sSideBetween ["word", "first", "last"]) (k_ONE_cells : Con K mg "ONE_cells" (eQ 1)) (c_plus : Cal P w K mg base "plus" 3 ["one", "other"] cPlus) (c_from_nought_cells : Cal P w K mg base "from_nought_cells" 2 ["x"] cNought) (c_less : Cal P w K mg base "less" 3 ["one", "other"] cLess) (c_is_below : Cal P w K mg base "is_below" 1 ["one", "other"] cBelow) : Cal P w K mg base "side_between" 4 ["word", "first", "last"] cBetween := by
  refine cal_of d scSideBetween ?len ⟨_, fun f cdv A outer s H E hr => (dss_cons (ds_par 3 4 rfl scSideBetween.nd (da_cons (de_fn c_from_nought_cells hr (df_cons (de_var 1) df_nil)) (da_cons (de_fn c_from_nought_cells hr (df_cons (de_var 2) df_nil)) da_nil)))
      (dss_cons (ds_if (dt_cmp op_eq l_eq (de_var 0) de_str)
      (dss_one (ds_ret (de_fn c_from_nought_cells hr (df_cons (de_fn c_less hr (df_cons (de_var 4) (df_cons (de_var 3) df_nil))) df_nil))))
      dss_nil)
      (dss_cons (ds_set 5 scSideBetween.nd (de_fn c_plus hr (df_cons (de_fn c_less hr (df_cons (de_con k_ONE_cells) (df_cons (de_var 3) df_nil))) (df_cons (de_var 4) df_nil))))
      (dss_one (ds_ret (de_if (dt_val (de_fn c_is_below hr (df_cons (de_con k_ONE_cells) (df_cons (de_var 5) df_nil)))) (de_con k_ONE_cells) (de_var 5))))))), ?c⟩
  case len =>
    intro ds G h
    simp only [cBetween] at h
    repeat obtain ⟨_, h⟩ := h
    simp [*]
  case c =>
    intro ds G h0
    obtain ⟨w, a, b, rfl, h1, h2, hw, h⟩ := h0
    have g1 := sm_sz (sm_m0 h1)
    have g2 := sm_sz (sm_m0 h2)
    have g3 := sm_sz (Sm.sub (sm_m0 h2) (sm_m0 h1))
    have g4 := sm_sz (Sm.sub sm_one (sm_m0 h1))
    have g5 := sm_sz (Sm.add (Sm.sub sm_one (sm_m0 h1)) (sm_m0 h2))
    have h1 := sm_sz h1
    have h2 := sm_sz h2
    by_cases c : 1 < (1 - m0 a) + m0 b <;> cases w <;> simp [eW, between, c, h1, h2, g1, g2, g3, g4, g5] at hw h ⊢ <;> exact h
abbrev sSideSizes : Stmt := topS 25
theorem scSideSizes : FnScope ["word", "ranges", "first", "last"] ["word", "ranges"] (defScope sSideSizes) := ⟨rfl, rfl, rfl, by decide +kernel, rfl, by decide +kernel, by decide +kernel⟩
@[simp] def cSizes : Ct := fun ds F => ∃ (c : CS), ds = [eW c.w, .tup (eRs c)] ∧ CSm c ∧ c.w ≠ .un ∧ F (.tup [eQ c.lo, eQ c.hi])
theorem ok_side_sizes (d : Def K mg "side_sizes" "side_sizes" sSideSizes ["word", "ranges"]) (c_side_between : Cal P w K mg base "side_between" 4 ["word", "first", "last"] cBetween) (c_from_nought_cells : Cal P w K mg base "from_nought_cells" 2 ["x"] cNought) : Cal P w K mg base "side_sizes" 5 ["word", "ranges"] cSizes := by
  refine cal_of d scSideSizes ?len ⟨_, fun f cdv A outer s H E hr => (dss_cons (ds_if (dt_cmp op_eq l_eq (de_var 0) de_str)
      (dss_one (ds_ret (de_tup (da_cons (de_fn c_from_nought_cells hr (df_cons (de_ix ix_any l_ix (de_ix ix_any l_ix (de_var 1) de_int) de_int) df_nil)) (da_cons (de_fn c_from_nought_cells hr (df_cons (de_ix ix_any l_ix (de_ix ix_any l_ix (de_var 1) de_int) de_int) df_nil)) da_nil)))))
      dss_nil)
      (dss_cons (ds_asg (de_var 1) (dg_tup (n := 2) rfl (dgs_cons (dg_name 2 scSideSizes.nd) (dgs_cons (dg_name 3 scSideSizes.nd) dgs_nil))))
      (dss_one (ds_ret (de_tup (da_cons (de_fn c_side_between hr (df_cons (de_var 0) (df_cons (de_ix ix_any l_ix (de_var 2) de_int) (df_cons (de_ix ix_any l_ix (de_var 3) de_int) df_nil)))) (da_cons (de_fn c_side_between hr (df_cons (de_var 0) (df_cons (de_ix ix_any l_ix (de_var 2) de_int) (df_cons (de_ix ix_any l_ix (de_var 3) de_int) df_nil)))) da_nil))))))), ?c⟩
  case len =>
    intro ds G h
    simp only [cSizes] at h
    repeat obtain ⟨_, h⟩ := h
    simp [*]
  case c =>
    intro ds G h0
    obtain ⟨⟨w, r0, r1⟩, rfl, ⟨h2, h3, h4, h5⟩, hw, h⟩ := h0
    have g2 := sm_sz h2
    have g3 := sm_sz h3
    cases w <;> simp [eRs, CS.lo, CS.hi, g2, g3, h2, h3, h4, h5] at hw h2 h3 h4 h5 g2 g3 h ⊢ <;> simp [eW, g2, g3]
    · exact h
    · exact h
    · exact h
end
end EP

set_option Elab.async false
set_option linter.all false
set_option maxRecDepth 100000
set_option maxHeartbeats 4000000
namespace EP
open PySem PySem.Spec PyProof.Rows L2 DL
variable {α : Type} {asg : Asg} {Tt : TDT} {Te : TD} {Tb : TDS} {ρw : DEnv} {k : List D → Prop} {E : DEnds}
theorem compD_filter (g : α → D) (p : α → Bool) (e : α → D) : ∀ (xs : List α) (acc : List D), (∀ x ∈ xs, ∀ (F : D → Prop) (G : Prop), (if p x = true then F (e x) else G) → asg (g x) ρw (fun ρ2 => Tt ρ2 fun b => if b = true then Te ρ2 F else G)) →
    k (acc ++ (xs.filter p).map e) → CompD asg Tt Te ρw k (xs.map g) acc
  | [], acc, _, h => by simpa [CompD] using h
  | x :: xs, acc, st, h => by
    refine st x List.mem_cons_self _ _ ?_
    have ih := fun acc' => compD_filter g p e xs acc' (fun y hy => st y (List.mem_cons_of_mem _ hy))
    by_cases c : p x = true
    · rw [if_pos c]
      refine ih _ ?_
      simpa [List.filter_cons, c] using h
    · rw [if_neg c]
      refine ih _ ?_
      simpa [List.filter_cons, c] using h
theorem compD_map (g : α → D) (e : α → D) (xs : List α) (acc : List D) (st : ∀ x ∈ xs, ∀ (F : D → Prop) (G : Prop), F (e x) → asg (g x) ρw (fun ρ2 => Tt ρ2 fun b => if b = true then Te ρ2 F else G))
    (h : k (acc ++ xs.map e)) : CompD asg Tt Te ρw k (xs.map g) acc := by
  refine compD_filter g (fun _ => true) e xs acc (fun x hx F G f => st x hx F G (by simpa using f)) ?_
  rw [List.filter_eq_self.mpr (by simp)]
  exact h
/-- every turn's answer is one of R's -/
theorem compD_rel (g : α → D) (R : α → D → Prop) : ∀ (xs : List α) (acc : List D), (∀ x ∈ xs, ∀ (F : D → Prop) (G : Prop), (∀ y, R x y → F y) → asg (g x) ρw (fun ρ2 => Tt ρ2 fun b => if b = true then Te ρ2 F else G)) →
    (∀ ys : List D, Paired R xs ys → k (acc ++ ys)) → CompD asg Tt Te ρw k (xs.map g) acc
  | [], acc, _, h => by simpa [CompD] using h [] .nil
  | x :: xs, acc, st, h => by
    refine st x List.mem_cons_self _ _ fun y hy => ?_
    refine compD_rel g R xs _ (fun y hy => st y (List.mem_cons_of_mem _ hy)) fun ys hys => ?_
    simpa using h (y :: ys) (.cons hy hys)
theorem forD_inv (g : α → D) (I : List α → DEnv → Prop) (st : ∀ x xs ρ (N : DEnv → Prop), (∀ ρ', I xs ρ' → N ρ') → I (x :: xs) ρ → asg (g x) ρ fun ρ1 => Tb { nx := N, ct := N, bk := E.nx, rt := E.rt } ρ1) (fin : ∀ ρ, I [] ρ → E.nx ρ) :
    ∀ (xs : List α) (ρ : DEnv), I xs ρ → ForD asg Tb E (xs.map g) ρ
  | [], ρ, h => fin ρ h
  | x :: xs, ρ, h => st x xs ρ _ (fun ρ' h' => forD_inv g I st fin xs ρ' h') h
theorem zipD_map {β : Type} (f : α → D) (g : β → D) (xs : List α) (ys : List β) : zipD (xs.map f) (ys.map g) = (xs.zip ys).map fun z => .tup [f z.1, g z.2] := by
  unfold zipD
  rw [List.zip_map, List.map_map]
  rfl
theorem blk_ok {X : Cx} {N : List Str} {sc scope : Scope} {own : List (Str × Nat)} (h1 : X.N = N) (h2 : X.env.scope = sc) (h : blkC N sc scope own = true) : blkC X.N X.env.scope scope own = true := by
  rw [h1, h2]
  exact h
end EP

set_option Elab.async false
set_option linter.all false
set_option maxRecDepth 100000
set_option maxHeartbeats 4000000
namespace EP
open PySem PySem.Spec PyProof.Rows L2 DL
def CellOk (cell : Cell) : Prop := (∀ c ∈ cell, CSm c ∧ c.w ≠ .un) ∧ (cell.length = 1 ∨ cell.length = 2)
theorem cell12 {cell : Cell} (h : CellOk cell) : (∃ c, cell = [c] ∧ CSm c ∧ c.w ≠ .un) ∨ ∃ c d, cell = [c, d] ∧ (CSm c ∧ c.w ≠ .un) ∧ (CSm d ∧ d.w ≠ .un) := by
  obtain ⟨h1, h2⟩ := h
  match cell, h2, h1 with
  | [c], _, h1 => exact .inl ⟨c, rfl, h1 c (by simp)⟩
  | [c, d], _, h1 => exact .inr ⟨c, d, rfl, h1 c (by simp), h1 d (by simp)⟩
theorem sm_vLo {cell : Cell} (h : ∀ c ∈ cell, CSm c) (hl : cell.length ≤ 2) : Sm 300 (vLo cell) ∧ Sm 300 (vHi cell) := by
  match cell, hl, h with
  | [], _, _ => exact ⟨Sm.mono sm_one (by decide), Sm.mono sm_one (by decide)⟩
  | [c], _, h =>
    have h1 := h c (by simp)
    exact ⟨Sm.mono (Sm.mul sm_one (sm_lo h1)) (by decide), Sm.mono (Sm.mul sm_one (sm_hi h1)) (by decide)⟩
  | [c, d], _, h =>
    have h1 := h c (by simp)
    have h2 := h d (by simp)
    exact ⟨Sm.mono (Sm.mul (Sm.mul sm_one (sm_lo h1)) (sm_lo h2)) (by decide), Sm.mono (Sm.mul (Sm.mul sm_one (sm_hi h1)) (sm_hi h2)) (by decide)⟩
section
variable {P : Program} {w : World} {K : PySem.W.Frag} {mg : Str → Option Value} {base : Heap}
theorem all_eq (p : Pt) (cell : Cell) (f : Rat × CS → Bool) : ((p.zip cell).map f).all id = (p.zip cell).all f := by
  rw [List.all_map]
  rfl
theorem map_bl {α : Type} (l : List α) (f : α → Bool) : (l.map f).map D.bl = l.map fun x => D.bl (f x) := by rw [List.map_map]; rfl
abbrev sCellTold : Stmt := topS 26
theorem scCellTold : FnScope ["points", "cell", "least", "most", "word", "ranges", "sizes", "sure", "near", "point", "pairs", "x"] ["points", "cell"] (defScope sCellTold) := ⟨rfl, rfl, rfl, by decide +kernel, rfl, by decide +kernel, by decide +kernel⟩
@[simp] def cCellTold : Ct := fun ds F => ∃ (pts : List Pt) (cell : Cell), ds = [ePts pts, eCell cell] ∧ CellOk cell ∧ (∀ p ∈ pts, PtOk cell.length p) ∧ F (.tup [.int (cntS pts cell), .int (cntN pts cell), eQ (vLo cell), eQ (vHi cell)])
theorem ok_cell_told (d : Def K mg "cell_told" "cell_told" sCellTold ["points", "cell"]) (B : Blt mg) (k_ONE_cells : Con K mg "ONE_cells" (eQ 1)) (c_side_sizes : Cal P w K mg base "side_sizes" 5 ["word", "ranges"] cSizes) (c_times : Cal P w K mg base "times" 3 ["one", "other"] cTimes) (c_is_surely : Cal P w K mg base "is_surely" 2 ["x", "word", "ranges"] cSurely) (c_is_perhaps : Cal P w K mg base "is_perhaps" 2 ["x", "word", "ranges"] cPerhaps) : Cal P w K mg base "cell_told" 6 ["points", "cell"] cCellTold := by
  refine cal_of d scCellTold ?len ⟨_, fun f cdv A outer s H E hr => (dss_cons (ds_par 2 3 rfl scCellTold.nd (da_cons (de_con k_ONE_cells) (da_cons (de_con k_ONE_cells) da_nil)))
      (dss_cons (ds_for PassesOwn.never rfl (di_tup (de_var 1)) (dg_tup (n := 2) rfl (dgs_cons (dg_name 4 scCellTold.nd) (dgs_cons (dg_name 5 scCellTold.nd) dgs_nil)))
      (dss_cons (ds_set 6 scCellTold.nd (de_fn c_side_sizes hr (df_cons (de_var 4) (df_cons (de_var 5) df_nil))))
      (dss_one (ds_par 2 3 rfl scCellTold.nd (da_cons (de_fn c_times hr (df_cons (de_var 2) (df_cons (de_ix ix_any l_ix (de_var 6) de_int) df_nil))) (da_cons (de_fn c_times hr (df_cons (de_var 3) (df_cons (de_ix ix_any l_ix (de_var 6) de_int) df_nil))) da_nil))))))
      (dss_cons (ds_asg (de_tup (da_cons de_int (da_cons de_int da_nil))) (dg_tup (n := 2) rfl (dgs_cons (dg_name 7 scCellTold.nd) (dgs_cons (dg_name 8 scCellTold.nd) dgs_nil))))
      (dss_cons (ds_for PassesOwn.never rfl (di_tup (de_var 0)) (dg_name 9 scCellTold.nd)
      (dss_cons (ds_set 10 scCellTold.nd (de_listZip rfl B.list B.zip (da_cons (de_var 9) (da_cons (de_var 1) da_nil))))
      (dss_one (ds_if (dt_val (de_callB (cr_all rfl) l_all B.all boot_all_ (da_cons (de_comp [("x", 11), ("word", 4), ("ranges", 5)] rfl scCellTold.nd (di_list (de_var 10)) (fun _ _ _ _ _ => (dg_tup (n := 2) rfl (dgs_cons (dg_name 11 scCellTold.nd) (dgs_cons (dg_tup (n := 2) rfl (dgs_cons (dg_name 4 scCellTold.nd) (dgs_cons (dg_name 5 scCellTold.nd) dgs_nil))) dgs_nil)))) (fun _ _ _ _ _ => dts_nil) (fun _ _ _ _ _ => (de_fn c_is_surely hr (df_cons (de_var 11) (df_cons (de_var 4) (df_cons (de_var 5) df_nil))))) (blk_ok (N := ["points", "cell", "least", "most", "word", "ranges", "sizes", "sure", "near", "point", "pairs", "x"]) (sc := defScope sCellTold) rfl rfl (by decide +kernel))) da_nil)))
      (dss_one (ds_set 7 scCellTold.nd (de_op op_add l_I0 (de_var 7) de_int)))
      (dss_one (ds_if (dt_val (de_callB (cr_all rfl) l_all B.all boot_all_ (da_cons (de_comp [("x", 11), ("word", 4), ("ranges", 5)] rfl scCellTold.nd (di_list (de_var 10)) (fun _ _ _ _ _ => (dg_tup (n := 2) rfl (dgs_cons (dg_name 11 scCellTold.nd) (dgs_cons (dg_tup (n := 2) rfl (dgs_cons (dg_name 4 scCellTold.nd) (dgs_cons (dg_name 5 scCellTold.nd) dgs_nil))) dgs_nil)))) (fun _ _ _ _ _ => dts_nil) (fun _ _ _ _ _ => (de_fn c_is_perhaps hr (df_cons (de_var 11) (df_cons (de_var 4) (df_cons (de_var 5) df_nil))))) (blk_ok (N := ["points", "cell", "least", "most", "word", "ranges", "sizes", "sure", "near", "point", "pairs", "x"]) (sc := defScope sCellTold) rfl rfl (by decide +kernel))) da_nil)))
      (dss_one (ds_set 8 scCellTold.nd (de_op op_add l_I0 (de_var 8) de_int)))
      dss_nil))))))
      (dss_one (ds_ret (de_tup (da_cons (de_var 7) (da_cons (de_var 8) (da_cons (de_var 2) (da_cons (de_var 3) da_nil))))))))))), ?c⟩
  case len =>
    intro ds G h
    simp only [cCellTold] at h
    repeat obtain ⟨_, h⟩ := h
    simp [*]
  case c =>
    intro ds G h0
    obtain ⟨pts, cell, rfl, hc, hp, h⟩ := h0
    have hlen := hc.2
    refine ⟨_, _, rfl, _, rfl, _, rfl, ?_⟩
    refine forD_inv eCS (fun cs ρ => ∃ (pre : Cell) (o4 o5 o6 : Option S), pre ++ cs = cell ∧ ρ = [some (.val (ePts pts)), some (.val (eCell cell)), some (.val (eQ (vLo pre))), some (.val (eQ (vHi pre))), o4, o5, o6, none, none, none, none, none]) ?_ ?_ cell _ ⟨[], none, none, none, rfl, rfl⟩
    · rintro c cs ρ N hN ⟨pre, o4, o5, o6, e, rfl⟩
      have hm : c ∈ cell := by rw [← e]; simp
      have hl : pre.length + cs.length + 1 ≤ 2 := by
        have := congrArg List.length e
        simp at this
        omega
      have h1 := hc.1 c hm
      have h2 := sm_vLo (cell := pre) (fun x hx => (hc.1 x (by rw [← e]; simp [hx])).1) (by omega)
      have h3 := sm_sz h2.1
      have h4 := sm_sz h2.2
      have h5 := sm_sz (sm_lo h1.1)
      have h6 := sm_sz (sm_hi h1.1)
      have e1 : vLo (pre ++ [c]) = vLo pre * c.lo := by simp [vLo]
      have e2 : vHi (pre ++ [c]) = vHi pre * c.hi := by simp [vHi]
      have hn := hN [some (.val (ePts pts)), some (.val (eCell cell)), some (.val (eQ (vLo pre * c.lo))), some (.val (eQ (vHi pre * c.hi))), some (.val (eW c.w)), some (.val (.tup (eRs c))), some (.val (.tup [eQ c.lo, eQ c.hi])), none, none, none, none, none] ⟨pre ++ [c], _, _, _, by simpa using e, by rw [e1, e2]⟩
      simp [eCS]
      refine ⟨c, rfl, rfl, h1.1, h1.2, ?_⟩
      simp [h3, h4, h5, h6, hn]
    · rintro ρ ⟨pre, o4, o5, o6, e, rfl⟩
      rw [List.append_nil] at e
      subst e
      refine ⟨_, rfl, rfl, _, _, rfl, _, _, rfl, rfl, _, rfl, _, rfl, ?_⟩
      refine forD_inv ePt (fun ps ρ => ∃ (done : List Pt) (o9 o10 o11 : Option S), done ++ ps = pts ∧ ρ = [some (.val (ePts pts)), some (.val (eCell pre)), some (.val (eQ (vLo pre))), some (.val (eQ (vHi pre))), o4, o5, o6, some (.val (.int (cntS done pre))), some (.val (.int (cntN done pre))), o9, o10, o11]) ?_ ?_ pts _ ⟨[], none, none, none, rfl, rfl⟩
      · rintro p ps ρ N hN ⟨dn, o9, o10, o11, e, rfl⟩
        have hm : p ∈ pts := by rw [← e]; simp
        have hpp := hp p hm
        have e1 : cntS (dn ++ [p]) pre = cntS dn pre + if allS pre p = true then 1 else 0 := by simp [cntS, List.countP_append, List.countP_cons]
        have e2 : cntN (dn ++ [p]) pre = cntN dn pre + if (!allS pre p && allM pre p) = true then 1 else 0 := by simp [cntN, List.countP_append, List.countP_cons]
        have hn := fun a b (o9 o10 o11 : Option S) (ha : a = (cntS (dn ++ [p]) pre : Int)) (hb : b = (cntN (dn ++ [p]) pre : Int)) => hN [some (.val (ePts pts)), some (.val (eCell pre)), some (.val (eQ (vLo pre))), some (.val (eQ (vHi pre))), o4, o5, o6, some (.val (.int a)), some (.val (.int b)), o9, o10, o11] ⟨dn ++ [p], o9, o10, o11, by simpa using e, by subst ha hb; rfl⟩
        have hz : zipD (p.map eQ) (pre.map eCS) = (p.zip pre).map fun z => .tup [eQ z.1, eCS z.2] := zipD_map _ _ _ _
        have hzl : (p.zip pre).length ≤ 100000 := by
          rw [List.length_zip]
          omega
        have hx : ∀ z ∈ p.zip pre, Sm 50 z.1 ∧ CSm z.2 ∧ z.2.w ≠ .un := fun z hz => by
          have h1 := List.of_mem_zip (a := z.1) (b := z.2) hz
          exact ⟨(hpp.2 _ h1.1).2.2, hc.1 _ h1.2⟩
        have hcomp : ∀ (f : CS → Rat → Bool) (C : Ct) (ρ0 : DEnv) (F : D → Prop) (a b c : S), (∀ x (c : CS) F, Sm 50 x → CSm c → c.w ≠ .un → F (.bl (f c x)) → C [eQ x, eW c.w, .tup (eRs c)] F) →
            (F (.bl ((p.zip pre).all fun z => f z.2 z.1))) → dCB fAll (dCons (dLc (iLst (dVar 10)) (aTup 2 (aCons (aName 11) (aCons (aTup 2 (aCons (aName 4) (aCons (aName 5) aNil))) aNil))) dYes (dCall C (dCons (dVar 11) (dCons (dVar 4) (dCons (dVar 5) dNil)))) [11, 4, 5]) dNil)
              [some (.val (ePts pts)), some (.val (eCell pre)), some (.val (eQ (vLo pre))), some (.val (eQ (vHi pre))), o4, o5, o6, some (.val (.int (cntS dn pre))), some (.val (.int (cntN dn pre))), some (.val (ePt p)), some (.val (.lst (zipD (p.map eQ) (pre.map eCS)))), o11] F := by
          intro f C ρ0 F a b c hC hF
          refine ⟨_, rfl, _, rfl, by rw [hz, List.length_map]; exact hzl, ?_⟩
          rw [hz]
          refine compD_map _ (fun z => .bl (f z.2 z.1)) _ _ ?_ ?_
          · intro z hz F G hf
            have := hx z hz
            simp [eCS]
            exact hC z.1 z.2 F this.1 this.2.1 this.2.2 hf
          · refine ⟨(p.zip pre).map fun z => f z.2 z.1, by rw [List.nil_append, map_bl], ?_⟩
            rw [all_eq]
            exact hF
        have hS : ∀ x (c : CS) F, Sm 50 x → CSm c → c.w ≠ .un → F (.bl (c.sure x)) → cSurely [eQ x, eW c.w, .tup (eRs c)] F := fun x c F a b d e => ⟨x, c, rfl, a, b, d, e⟩
        have hM : ∀ x (c : CS) F, Sm 50 x → CSm c → c.w ≠ .un → F (.bl (c.maybe x)) → cPerhaps [eQ x, eW c.w, .tup (eRs c)] F := fun x c F a b d e => ⟨x, c, rfl, a, b, d, e⟩
        refine ⟨_, rfl, _, rfl, _, _, rfl, by rw [List.length_map, List.length_map]; exact hpp.1, ?_⟩
        refine hcomp CS.sure cSurely [] _ .feed .feed .feed hS ⟨_, rfl, ?_⟩
        show (if allS pre p = true then _ else _)
        refine ite2 (fun q => ?_) (fun q => ?_)
        · simp [q] at e1 e2
          refine ⟨_, rfl, _, _, rfl, rfl, hn _ _ _ _ _ ?_ ?_⟩
          · rw [e1]; rfl
          · rw [e2]
        · refine hcomp CS.maybe cPerhaps [] _ .feed .feed .feed hM ⟨_, rfl, ?_⟩
          show (if allM pre p = true then _ else _)
          refine ite2 (fun q2 => ?_) (fun q2 => ?_)
          · simp [q, q2] at e1 e2
            refine ⟨_, rfl, _, _, rfl, rfl, hn _ _ _ _ _ ?_ ?_⟩
            · rw [e1]
            · rw [e2]; rfl
          · simp [q, q2] at e1 e2
            refine hn _ _ _ _ _ ?_ ?_
            · rw [e1]
            · rw [e2]
      · rintro ρ ⟨dn, o9, o10, o11, e, rfl⟩
        rw [List.append_nil] at e
        subst e
        simp
        exact h
end
end EP

set_option Elab.async false
set_option linter.all false
set_option maxRecDepth 100000
set_option maxHeartbeats 4000000
namespace EP
open PySem PySem.Spec PyProof.Rows L2 DL
theorem atI_nat {α : Type} (l : List α) (s : Nat) : atI l (s : Int) = l[s]? := by
  unfold atI ixN
  rw [if_pos (by omega)]
  by_cases h : s < l.length
  · rw [if_pos (by omega)]
    simp
  · rw [if_neg (by omega), List.getElem?_eq_none (by omega)]
    rfl
@[simp] theorem ix_nat (l : List D) (s : Nat) : ixD (.tup l) (.int (s : Int)) = l[s]? := atI_nat l s
@[simp] theorem ix_natl (l : List D) (s : Nat) : ixD (.lst l) (.int (s : Int)) = l[s]? := atI_nat l s
theorem cut_to {l : List D} {s : Nat} (h : s ≤ l.length) : DL.cutD l none (some (s : Int)) = l.take s := by
  unfold DL.cutD
  rw [HT.sIx_none, HT.sIx_nat, Nat.min_eq_left h]
  simp
theorem cut_from {l : List D} {s : Nat} (h : s ≤ l.length) : DL.cutD l (some (s : Int)) none = l.drop s := by
  unfold DL.cutD
  rw [HT.sIx_none, HT.sIx_nat, Nat.min_eq_left h]
  rw [List.take_of_length_le]
  simp
theorem cut_from1 {l : List D} {s : Nat} (h : s < l.length) : DL.cutD l (some ((s : Int) + 1)) none = l.drop (s + 1) := by
  rw [← cut_from (by omega)]
  rfl
theorem take_set_drop {α : Type} (l : List α) (s : Nat) (x : α) (h : s < l.length) : l.take s ++ (x :: l.drop (s + 1)) = l.set s x := (List.set_eq_take_append_cons_drop.trans (if_pos h)).symm
@[simp] theorem ix2 (a b c : D) (l : List D) : ixD (.tup (a :: b :: c :: l)) (.int 2) = some c := ix_nat (a :: b :: c :: l) 2
@[simp] theorem ix3 (a b c d : D) (l : List D) : ixD (.tup (a :: b :: c :: d :: l)) (.int 3) = some d := ix_nat (a :: b :: c :: d :: l) 3
@[simp] theorem ix41 (a b c d : D) : ixD (.tup [a, b, c, d]) (.int (-1)) = some d := rfl
@[simp] theorem ix42 (a b c d : D) : ixD (.tup [a, b, c, d]) (.int (-2)) = some c := rfl
@[simp] theorem ix61 (a b c d e f : D) : ixD (.tup [a, b, c, d, e, f]) (.int (-1)) = some f := rfl
@[simp] theorem ix62 (a b c d e f : D) : ixD (.tup [a, b, c, d, e, f]) (.int (-2)) = some e := rfl
@[simp] theorem kit1 : kitB "int" "int" = some true := by decide +kernel
@[simp] theorem kit2 : kitB "int" "bool" = some false := by decide +kernel
@[simp] theorem kit3 : kitB "tuple" "tuple" = some true := by decide +kernel
section
variable {P : Program} {w : World} {K : PySem.W.Frag} {mg : Str → Option Value} {base : Heap}
abbrev sIsWhole : Stmt := topS 8
theorem scIsWhole : FnScope ["thing"] ["thing"] (defScope sIsWhole) := ⟨rfl, rfl, rfl, by decide +kernel, rfl, by decide +kernel, by decide +kernel⟩
@[simp] def cIsWhole : Ct := fun ds F => ∃ (i : Int), ds = [.int i] ∧ F (.bl true)
theorem ok_is_whole (d : Def K mg "is_whole" "is_whole" sIsWhole ["thing"]) (B : Blt mg) : Cal P w K mg base "is_whole" 1 ["thing"] cIsWhole := by
  refine cal_of d scIsWhole ?len ⟨_, fun f cdv A outer s H E hr => (dss_one (ds_ret (de_and (de_isi (T := "int") B.isinstance B.int boot_int_ (de_var 0) (hT := .ty _)) (de_one (de_not (de_isi (T := "bool") B.isinstance B.bool boot_bool_ (de_var 0) (hT := .ty _))))))), ?c⟩
  case len =>
    intro ds G h
    simp only [cIsWhole] at h
    repeat obtain ⟨_, h⟩ := h
    simp [*]
  case c =>
    intro ds G h0
    obtain ⟨i, rfl, h⟩ := h0
    simp
    exact h
abbrev sIsFraction : Stmt := topS 10
theorem scIsFraction : FnScope ["thing"] ["thing"] (defScope sIsFraction) := ⟨rfl, rfl, rfl, by decide +kernel, rfl, by decide +kernel, by decide +kernel⟩
@[simp] def cIsFraction : Ct := fun ds F => ∃ (q : Rat), ds = [eQ q] ∧ F (.bl true)
theorem ok_is_fraction (d : Def K mg "is_fraction" "is_fraction" sIsFraction ["thing"]) (B : Blt mg) (c_shared : Cal P w K mg base "shared" 1 ["one", "other"] cShared) (c_is_whole : Cal P w K mg base "is_whole" 1 ["thing"] cIsWhole) : Cal P w K mg base "is_fraction" 2 ["thing"] cIsFraction := by
  refine cal_of d scIsFraction ?len ⟨_, fun f cdv A outer s H E hr => (dss_cons (ds_if (DW.dt (dw_or (dt_not (dt_val (de_isi (T := "tuple") B.isinstance B.tuple boot_tuple_ (de_var 0) (hT := .ty _)))) (dw_or1 (dt_cmp op_ne l_ne (de_callB call_len_seq l_len B.len PySem.boot_len (da_cons (de_var 0) da_nil)) de_int))))
      (dss_one (ds_ret de_bl))
      dss_nil)
      (dss_cons (ds_if (DW.dt (dw_or (dt_not (dt_val (de_fn c_is_whole hr (df_cons (de_ix ix_any l_ix (de_var 0) de_int) df_nil)))) (dw_or (dt_not (dt_val (de_fn c_is_whole hr (df_cons (de_ix ix_any l_ix (de_var 0) de_int) df_nil)))) (dw_or1 (dt_cmp op_lt l_B0 (de_ix ix_any l_ix (de_var 0) de_int) de_int)))))
      (dss_one (ds_ret de_bl))
      dss_nil)
      (dss_one (ds_ret (de_cmp op_eq l_eq (de_fn c_shared hr (df_cons (de_callB call_abs l_abs B.abs boot_abs_ (da_cons (de_ix ix_any l_ix (de_var 0) de_int) da_nil)) (df_cons (de_ix ix_any l_ix (de_var 0) de_int) df_nil))) de_int))))), ?c⟩
  case len =>
    intro ds G h
    simp only [cIsFraction] at h
    repeat obtain ⟨_, h⟩ := h
    simp [*]
  case c =>
    intro ds G h0
    obtain ⟨q, rfl, h⟩ := h0
    have h1 := q.den_pos
    have h2 : Int.gcd (if q.num < 0 then -q.num else q.num) q.den = 1 := by
      have := q.reduced
      unfold Nat.Coprime at this
      split <;> simpa [Int.gcd] using this
    simp [eQ, show ¬ ((q.den : Int) < 1) by omega, h2, show 0 ≤ (if q.num < 0 then -q.num else q.num) by split <;> omega]
    exact h
abbrev sIsNumberBelow : Stmt := topS 34
theorem scIsNumberBelow : FnScope ["thing", "many"] ["thing", "many"] (defScope sIsNumberBelow) := ⟨rfl, rfl, rfl, by decide +kernel, rfl, by decide +kernel, by decide +kernel⟩
@[simp] def cNumBelow : Ct := fun ds F => ∃ (i m : Int), ds = [.int i, .int m] ∧ 0 ≤ i ∧ i < m ∧ F (.bl true)
theorem ok_is_number_below (d : Def K mg "is_number_below" "is_number_below" sIsNumberBelow ["thing", "many"]) (B : Blt mg) : Cal P w K mg base "is_number_below" 1 ["thing", "many"] cNumBelow := by
  refine cal_of d scIsNumberBelow ?len ⟨_, fun f cdv A outer s H E hr => (dss_one (ds_ret (de_and (de_isi (T := "int") B.isinstance B.int boot_int_ (de_var 0) (hT := .ty _)) (de_and (de_not (de_isi (T := "bool") B.isinstance B.bool boot_bool_ (de_var 0) (hT := .ty _))) (de_one (de_chain op_le l_B0 op_lt l_B0 de_int (de_var 0) (de_var 1))))))), ?c⟩
  case len =>
    intro ds G h
    simp only [cNumBelow] at h
    repeat obtain ⟨_, h⟩ := h
    simp [*]
  case c =>
    intro ds G h0
    obtain ⟨i, m, rfl, h1, h2, h⟩ := h0
    simp [h1, h2]
    exact h
def kindS : Tr → String
  | .leaf => "leaf"
  | .cut .. => "cut"
  | .ways .. => "ways"
def NodeOk (n : Nat) (f : Fam) : Tr → Prop
  | .leaf => True
  | .cut s q a _ _ => s < n ∧ (q = true → f ≠ .corner)
  | .ways s _ _ => s < n
abbrev sKindOf : Stmt := topS 35
theorem scKindOf : FnScope ["s", "family", "thing"] ["s", "family", "thing"] (defScope sKindOf) := ⟨rfl, rfl, rfl, by decide +kernel, rfl, by decide +kernel, by decide +kernel⟩
@[simp] def cKindOf : Ct := fun ds F => ∃ (n : Nat) (f : Fam) (T : Tr), ds = [.int (n : Int), eF f, eTr T] ∧ NodeOk n f T ∧ F (.str (kindS T))
theorem ok_kind_of (d : Def K mg "kind_of" "kind_of" sKindOf ["s", "family", "thing"]) (B : Blt mg) (c_is_number_below : Cal P w K mg base "is_number_below" 1 ["thing", "many"] cNumBelow) (c_is_fraction : Cal P w K mg base "is_fraction" 2 ["thing"] cIsFraction) : Cal P w K mg base "kind_of" 3 ["s", "family", "thing"] cKindOf := by
  refine cal_of d scKindOf ?len ⟨_, fun f cdv A outer s H E hr => (dss_cons (ds_if (dt_not (dt_val (de_isi (T := "tuple") B.isinstance B.tuple boot_tuple_ (de_var 2) (hT := .ty _))))
      (dss_one (ds_ret de_non))
      dss_nil)
      (dss_cons (ds_if (dt_cmp op_eq l_eq (de_callB call_len_seq l_len B.len PySem.boot_len (da_cons (de_var 2) da_nil)) de_int)
      (dss_one (ds_ret de_str))
      dss_nil)
      (dss_cons (ds_if (DW.dt (dw_and (dt_cmp op_eq l_eq (de_callB call_len_seq l_len B.len PySem.boot_len (da_cons (de_var 2) da_nil)) de_int) (dw_and (dt_cmp op_eq l_eq (de_ix ix_any l_ix (de_var 2) de_int) de_str) (dw_and1 (dt_val (de_fn c_is_number_below hr (df_cons (de_ix ix_any l_ix (de_var 2) de_int) (df_cons (de_var 0) df_nil))))))))
      (dss_one (ds_ret de_str))
      dss_nil)
      (dss_cons (ds_if (DW.dt (dw_or (dt_cmp op_ne l_ne (de_callB call_len_seq l_len B.len PySem.boot_len (da_cons (de_var 2) da_nil)) de_int) (dw_or (dt_cmp op_ne l_ne (de_ix ix_any l_ix (de_var 2) de_int) de_str) (dw_or1 (dt_not (dt_val (de_fn c_is_number_below hr (df_cons (de_ix ix_any l_ix (de_var 2) de_int) (df_cons (de_var 0) df_nil)))))))))
      (dss_one (ds_ret de_non))
      dss_nil)
      (dss_cons (ds_if (DW.dt (dw_or (dt_not (dt_val (de_fn c_is_number_below hr (df_cons (de_ix ix_any l_ix (de_var 2) de_int) (df_cons (de_op op_add l_I0 de_int (de_callTy call_int1 l_intB B.int boot_int_ (da_cons (de_cmp op_ne l_ne (de_var 1) de_str) da_nil))) df_nil))))) (dw_or1 (dt_not (dt_val (de_fn c_is_fraction hr (df_cons (de_ix ix_any l_ix (de_var 2) de_int) df_nil)))))))
      (dss_one (ds_ret de_non))
      dss_nil)
      (dss_one (ds_ret de_str))))))), ?c⟩
  case len =>
    intro ds G h
    simp only [cKindOf] at h
    repeat obtain ⟨_, h⟩ := h
    simp [*]
  case c =>
    intro ds G h0
    obtain ⟨n, f, T, rfl, hn, h⟩ := h0
    cases T with
    | leaf =>
      simp [eTr, kindS] at h ⊢
      exact h
    | ways s P Q =>
      have hn' : s < n := hn
      simp [eTr, kindS, show (s : Int) < n by omega] at h ⊢
      exact h
    | cut s q a P Q =>
      obtain ⟨h1, h2⟩ := hn
      cases f <;> cases q <;> simp [eTr, kindS, show (s : Int) < n by omega, eBit, eF] at h h2 ⊢ <;> exact h
end
end EP

set_option Elab.async false
set_option linter.all false
set_option maxRecDepth 100000
set_option maxHeartbeats 4000000
namespace EP
open PySem PySem.Spec PyProof.Rows L2 DL
theorem cut_set {α : Type} (e : α → D) (l : List α) (s : Nat) (x : α) (h : s < l.length) : DL.cutD (l.map e) none (some (s : Int)) ++ ([e x] ++ DL.cutD (l.map e) (some ((s : Int) + 1)) none) = (l.set s x).map e := by
  rw [cut_to (by simp; omega), cut_from1 (by simpa using h), ← List.map_take, ← List.map_drop]
  show _ ++ ((e x) :: List.map e (l.drop (s + 1))) = _
  rw [← List.map_cons, ← List.map_append, take_set_drop l s x h]
theorem modify_set {α : Type} [Inhabited α] (l : List α) (s : Nat) (f : α → α) (c : α) (h : l[s]? = some c) : l.modify s f = l.set s (f c) := by
  apply List.ext_getElem?
  intro i
  rw [List.getElem?_modify, List.getElem?_set]
  by_cases e : s = i
  · subst e
    have hl : s < l.length := (List.getElem?_eq_some_iff.mp h).1
    rw [List.getElem?_eq_getElem hl] at h
    cases h
    simp [hl]
  · simp [e]
instance : Inhabited CS := ⟨cs0⟩
theorem getC_of {cell : Cell} {s : Nat} {c : CS} (h : cell[s]? = some c) : getC cell s = c := by unfold getC; rw [h]; rfl
theorem get_getC {cell : Cell} {s : Nat} (h : s < cell.length) : cell[s]? = some (getC cell s) := by unfold getC; rw [List.getElem?_eq_getElem h]; rfl
theorem get_map {cell : Cell} {s : Nat} (h : s < cell.length) (e : CS → D) : (cell.map e)[s]? = some (e (getC cell s)) := by rw [List.getElem?_map, get_getC h]; rfl
theorem eCS_low (q : Bool) (a : Rat) (c : CS) (h : c.w = .to → q = false) : DL.cutD (eRs c) none (some (if q = true then 1 else 0)) ++ (.tup [eQ (c.rng q).1, eQ a] :: DL.cutD (eRs c) (some ((if q = true then 1 else 0) + 1)) none) = eRs (c.low q a) := by
  obtain ⟨w, r0, r1⟩ := c
  cases w <;> cases q <;> first | (cases h rfl; done) | rfl
theorem eCS_high (q : Bool) (a : Rat) (c : CS) (h : c.w = .to → q = false) : DL.cutD (eRs c) none (some (if q = true then 1 else 0)) ++ (.tup [eQ a, eQ (c.rng q).2] :: DL.cutD (eRs c) (some ((if q = true then 1 else 0) + 1)) none) = eRs (c.high q a) := by
  obtain ⟨w, r0, r1⟩ := c
  cases w <;> cases q <;> first | (cases h rfl; done) | rfl
theorem eRs_ix (q : Bool) (c : CS) (h : c.w = .to → q = false) : ixD (.tup (eRs c)) (.int (if q = true then 1 else 0)) = some (eR (c.rng q)) := by
  obtain ⟨w, r0, r1⟩ := c
  cases w <;> cases q <;> first | (cases h rfl; done) | rfl
theorem w_low (q : Bool) (a : Rat) (c : CS) : (c.low q a).w = c.w := by cases q <;> rfl
theorem w_high (q : Bool) (a : Rat) (c : CS) : (c.high q a).w = c.w := by cases q <;> rfl
section
variable {P : Program} {w : World} {K : PySem.W.Frag} {mg : Str → Option Value} {base : Heap}
abbrev sWithSide : Stmt := topS 36
theorem scWithSide : FnScope ["cell", "side", "told"] ["cell", "side", "told"] (defScope sWithSide) := ⟨rfl, rfl, rfl, by decide +kernel, rfl, by decide +kernel, by decide +kernel⟩
@[simp] def cWithSide : Ct := fun ds F => ∃ (cell : Cell) (s : Nat) (c : CS), ds = [eCell cell, .int (s : Int), eCS c] ∧ s < cell.length ∧ cell.length ≤ 2 ∧ F (eCell (cell.set s c))
theorem ok_with_side (d : Def K mg "with_side" "with_side" sWithSide ["cell", "side", "told"]) : Cal P w K mg base "with_side" 1 ["cell", "side", "told"] cWithSide := by
  refine cal_of d scWithSide ?len ⟨_, fun f cdv A outer s H E hr => (dss_one (ds_ret (de_op op_catA l_catT (de_op op_catA l_catT (de_slT (de_var 0) do_none (do_some (de_var 1))) (de_tup (da_cons (de_var 2) da_nil))) (de_slT (de_var 0) (do_some (de_op op_add l_I0 (de_var 1) de_int)) do_none)))), ?c⟩
  case len =>
    intro ds G h
    simp only [cWithSide] at h
    repeat obtain ⟨_, h⟩ := h
    simp [*]
  case c =>
    intro ds G h0
    obtain ⟨cell, s, c, rfl, hs, hl, h⟩ := h0
    have e := cut_set eCS cell s c hs
    have l1 : (DL.cutD (cell.map eCS) none (some (s : Int))).length ≤ 2 := by rw [cut_to (by simp; omega)]; simp; omega
    have l2 : (DL.cutD (cell.map eCS) (some ((s : Int) + 1)) none).length ≤ 2 := by
      rw [cut_from1 (by simpa using hs)]
      simp only [List.length_drop, List.length_map]
      omega
    simp [eCell]
    refine ⟨by omega, by omega, ?_⟩
    rw [show ∀ a b : List D, ∀ x, a ++ x :: b = a ++ ([x] ++ b) from fun _ _ _ => rfl, e]
    exact h
abbrev sCutCells : Stmt := topS 37
theorem scCutCells : FnScope ["cell", "side", "which", "at", "word", "ranges", "low", "high", "found", "one"] ["cell", "side", "which", "at"] (defScope sCutCells) := ⟨rfl, rfl, rfl, by decide +kernel, rfl, by decide +kernel, by decide +kernel⟩
@[simp] def cCutCells : Ct := fun ds F => ∃ (cell : Cell) (s : Nat) (q : Bool) (a : Rat), ds = [eCell cell, .int (s : Int), eBit q, eQ a] ∧ s < cell.length ∧ cell.length ≤ 2 ∧ ((getC cell s).w = .to → q = false) ∧
  F (.lst [eCell (cell.modify s (CS.low q a)), eCell (cell.modify s (CS.high q a))])
theorem ok_cut_cells (d : Def K mg "cut_cells" "cut_cells" sCutCells ["cell", "side", "which", "at"]) (c_with_side : Cal P w K mg base "with_side" 1 ["cell", "side", "told"] cWithSide) : Cal P w K mg base "cut_cells" 2 ["cell", "side", "which", "at"] cCutCells := by
  refine cal_of d scCutCells ?len ⟨_, fun f cdv A outer s H E hr => (dss_cons (ds_asg (de_ix ix_any l_ix (de_var 0) (de_var 1)) (dg_tup (n := 2) rfl (dgs_cons (dg_name 4 scCutCells.nd) (dgs_cons (dg_name 5 scCutCells.nd) dgs_nil))))
      (dss_cons (ds_asg (de_ix ix_any l_ix (de_var 5) (de_var 2)) (dg_tup (n := 2) rfl (dgs_cons (dg_name 6 scCutCells.nd) (dgs_cons (dg_name 7 scCutCells.nd) dgs_nil))))
      (dss_cons (ds_own 8 scCutCells.nd da_nil)
      (dss_cons (ds_for PassesOwn.never rfl (di_tup (de_tup (da_cons (de_tup (da_cons (de_var 6) (da_cons (de_var 3) da_nil))) (da_cons (de_tup (da_cons (de_var 3) (da_cons (de_var 7) da_nil))) da_nil)))) (dg_name 9 scCutCells.nd)
      (dss_one (ds_append 8 (de_fn c_with_side hr (df_cons (de_var 0) (df_cons (de_var 1) (df_cons (de_tup (da_cons (de_var 4) (da_cons (de_op op_catA l_catT (de_op op_catA l_catT (de_slT (de_var 5) do_none (do_some (de_var 2))) (de_tup (da_cons (de_var 9) da_nil))) (de_slT (de_var 5) (do_some (de_op op_add l_I0 (de_var 2) de_int)) do_none)) da_nil))) df_nil)))))))
      (dss_freeze 8 (dss_one (ds_ret (de_var 8)))))))), ?c⟩
  case len =>
    intro ds G h
    simp only [cCutCells] at h
    repeat obtain ⟨_, h⟩ := h
    simp [*]
  case c =>
    intro ds G h0
    obtain ⟨cell, s, q, a, rfl, hs, hl, hq, h⟩ := h0
    have e1 := eCS_low q a _ hq
    have e2 := eCS_high q a _ hq
    have e3 := eRs_ix q _ hq
    rw [modify_set cell s _ _ (get_getC hs), modify_set cell s _ _ (get_getC hs)] at h
    have lr : (eRs (getC cell s)).length ≤ 2 := by unfold eRs; split <;> simp
    have l1 : ∀ (l : List D) x, (DL.cutD l none x).length ≤ l.length := fun l x => by unfold DL.cutD; simp only [List.length_take, List.length_drop, HT.sIx_none]; omega
    have l2 : ∀ (l : List D) x, (DL.cutD l x none).length ≤ l.length := fun l x => by unfold DL.cutD; simp only [List.length_take, List.length_drop, HT.sIx_none]; omega
    have g1 := l1 (eRs (getC cell s)) (some (if q = true then 1 else 0))
    have g2 := l2 (eRs (getC cell s)) (some ((if q = true then 1 else 0) + 1))
    simp [eCell, eBit, get_map hs, eCS, e3, ForD]
    refine ⟨by omega, by omega, cell, rfl, s, rfl, (getC cell s).low q a, (w_low _ _ _).symm, e1, hs, hl, by omega, by omega, cell, rfl, s, rfl, (getC cell s).high q a, (w_high _ _ _).symm, e2, hs, hl, by simpa [eCell, eCS] using h⟩
abbrev sWayCells : Stmt := topS 38
theorem scWayCells : FnScope ["cell", "side", "ranges", "word"] ["cell", "side"] (defScope sWayCells) := ⟨rfl, rfl, rfl, by decide +kernel, rfl, by decide +kernel, by decide +kernel⟩
@[simp] def cWayCells : Ct := fun ds F => ∃ (cell : Cell) (s : Nat), ds = [eCell cell, .int (s : Int)] ∧ s < cell.length ∧ cell.length ≤ 2 ∧ ((getC cell s).w ≠ .to) ∧
  F (.lst [eCell (cell.modify s (CS.word .frm)), eCell (cell.modify s (CS.word .rnd))])
theorem ok_way_cells (d : Def K mg "way_cells" "way_cells" sWayCells ["cell", "side"]) (c_with_side : Cal P w K mg base "with_side" 1 ["cell", "side", "told"] cWithSide) : Cal P w K mg base "way_cells" 2 ["cell", "side"] cWayCells := by
  refine cal_of d scWayCells ?len ⟨_, fun f cdv A outer s H E hr => (dss_cons (ds_set 2 scWayCells.nd (de_ix ix_any l_ix (de_ix ix_any l_ix (de_var 0) (de_var 1)) de_int))
      (dss_one (ds_ret (de_comp [("word", 3)] rfl scWayCells.nd (di_tup (de_tup (da_cons de_str (da_cons de_str da_nil)))) (fun _ _ _ _ _ => (dg_name 3 scWayCells.nd)) (fun _ _ _ _ _ => dts_nil) (fun _ _ _ _ _ => (de_fn c_with_side hr (df_cons (de_var 0) (df_cons (de_var 1) (df_cons (de_tup (da_cons (de_var 3) (da_cons (de_var 2) da_nil))) df_nil))))) (blk_ok (N := ["cell", "side", "ranges", "word"]) (sc := defScope sWayCells) rfl rfl (by decide +kernel)))))), ?c⟩
  case len =>
    intro ds G h
    simp only [cWayCells] at h
    repeat obtain ⟨_, h⟩ := h
    simp [*]
  case c =>
    intro ds G h0
    obtain ⟨cell, s, rfl, hs, hl, hq, h⟩ := h0
    rw [modify_set cell s _ _ (get_getC hs), modify_set cell s _ _ (get_getC hs)] at h
    have e1 : eRs (getC cell s) = eRs ((getC cell s).word .frm) := by simp [CS.word, eRs, hq]
    have e2 : eRs (getC cell s) = eRs ((getC cell s).word .rnd) := by simp [CS.word, eRs, hq]
    simp [eCell, get_map hs, eCS, CompD]
    refine ⟨cell, rfl, s, rfl, (getC cell s).word .frm, rfl, e1, hs, hl, cell, rfl, s, rfl, (getC cell s).word .rnd, rfl, e2, hs, hl, by simpa [eCell, eCS] using h⟩
def kidsT (cell : Cell) : Tr → List Cell
  | .leaf => []
  | .cut s q a _ _ => [cell.modify s (CS.low q a), cell.modify s (CS.high q a)]
  | .ways s _ _ => [cell.modify s (CS.word .frm), cell.modify s (CS.word .rnd)]
def KidOk (cell : Cell) : Tr → Prop
  | .leaf => False
  | .cut s q _ _ _ => s < cell.length ∧ ((getC cell s).w = .to → q = false)
  | .ways s _ _ => s < cell.length ∧ (getC cell s).w ≠ .to
abbrev sCellsBehind : Stmt := topS 41
theorem scCellsBehind : FnScope ["cell", "thing"] ["cell", "thing"] (defScope sCellsBehind) := ⟨rfl, rfl, rfl, by decide +kernel, rfl, by decide +kernel, by decide +kernel⟩
@[simp] def cBehind : Ct := fun ds F => ∃ (cell : Cell) (T : Tr), ds = [eCell cell, eTr T] ∧ KidOk cell T ∧ cell.length ≤ 2 ∧ F (.lst ((kidsT cell T).map eCell))
theorem ok_cells_behind (d : Def K mg "cells_behind" "cells_behind" sCellsBehind ["cell", "thing"]) (c_cut_cells : Cal P w K mg base "cut_cells" 2 ["cell", "side", "which", "at"] cCutCells) (c_way_cells : Cal P w K mg base "way_cells" 2 ["cell", "side"] cWayCells) : Cal P w K mg base "cells_behind" 3 ["cell", "thing"] cBehind := by
  refine cal_of d scCellsBehind ?len ⟨_, fun f cdv A outer s H E hr => (dss_cons (ds_if (dt_cmp op_eq l_eq (de_ix ix_any l_ix (de_var 1) de_int) de_str)
      (dss_one (ds_ret (de_fn c_way_cells hr (df_cons (de_var 0) (df_cons (de_ix ix_any l_ix (de_var 1) de_int) df_nil)))))
      dss_nil)
      (dss_one (ds_ret (de_fn c_cut_cells hr (df_cons (de_var 0) (df_cons (de_ix ix_any l_ix (de_var 1) de_int) (df_cons (de_ix ix_any l_ix (de_var 1) de_int) (df_cons (de_ix ix_any l_ix (de_var 1) de_int) df_nil)))))))), ?c⟩
  case len =>
    intro ds G h
    simp only [cBehind] at h
    repeat obtain ⟨_, h⟩ := h
    simp [*]
  case c =>
    intro ds G h0
    obtain ⟨cell, T, rfl, hk, hl, h⟩ := h0
    cases T with
    | leaf => exact hk.elim
    | ways s P Q =>
      obtain ⟨h1, h2⟩ := hk
      simp [eTr]
      exact ⟨cell, rfl, s, rfl, h1, hl, h2, h⟩
    | cut s q a P Q =>
      obtain ⟨h1, h2⟩ := hk
      simp [eTr]
      refine ⟨cell, rfl, s, rfl, ?_⟩
      cases q
      · exact .inl ⟨rfl, h1, hl, h⟩
      · exact .inr ⟨rfl, h1, hl, (fun e => nomatch h2 e), h⟩
end
end EP

set_option Elab.async false
set_option linter.all false
set_option maxRecDepth 100000
set_option maxHeartbeats 4000000
namespace EP
open PySem PySem.Spec PyProof.Rows L2 DL
def CellF (f : Fam) (cell : Cell) : Prop := (∀ c ∈ cell, CSm c ∧ (c.w = .to ↔ f = .corner)) ∧ (cell.length = 1 ∨ cell.length = 2)
def PtsOk (n : Nat) (pts : List Pt) : Prop := (∀ p ∈ pts, PtOk n p) ∧ 1 ≤ pts.length ∧ pts.length ≤ 8
section
variable {P : Program} {w : World} {K : PySem.W.Frag} {mg : Str → Option Value} {base : Heap}
theorem sm_frac {k n : Nat} (h : k ≤ n) (h1 : 1 ≤ n) (h2 : n ≤ 8) : Sm 4 (mkRat (k : Int) n) := sm_mkRat (by simp; omega) (by omega) (by decide)
theorem cnt_le (pts : List Pt) (cell : Cell) : cntS pts cell + cntN pts cell ≤ pts.length := by
  unfold cntS cntN
  induction pts with
  | nil => simp
  | cons p pts ih =>
    simp only [List.countP_cons, List.length_cons]
    cases allS cell p <;> cases allM cell p <;> simp <;> omega
abbrev sLeafWord : Stmt := topS 39
theorem scLeafWord : FnScope ["points", "number", "cell", "word", "ranges", "sure", "near", "least", "most"] ["points", "number", "cell"] (defScope sLeafWord) := ⟨rfl, rfl, rfl, by decide +kernel, rfl, by decide +kernel, by decide +kernel⟩
@[simp] def cLeafWord : Ct := fun ds F => ∃ (pts : List Pt) (num : Rat) (cell : Cell), ds = [ePts pts, eQ num, eCell cell] ∧ CellOk cell ∧ PtsOk cell.length pts ∧ Sm 900 num ∧ overN pts cell ≤ num ∧ lackN pts cell ≤ num ∧ F (.str "")
theorem ok_leaf_word (d : Def K mg "leaf_word" "leaf_word" sLeafWord ["points", "number", "cell"]) (B : Blt mg) (c_cell_told : Cal P w K mg base "cell_told" 6 ["points", "cell"] cCellTold) (c_is_below : Cal P w K mg base "is_below" 1 ["one", "other"] cBelow) (c_less : Cal P w K mg base "less" 3 ["one", "other"] cLess) (c_fraction : Cal P w K mg base "fraction" 2 ["top", "bottom"] cFraction) : Cal P w K mg base "leaf_word" 7 ["points", "number", "cell"] cLeafWord := by
  refine cal_of d scLeafWord ?len ⟨_, fun f cdv A outer s H E hr => (dss_cons (ds_if (dt_not (dt_val (de_callB (cr_all rfl) l_all B.all boot_all_ (da_cons (de_comp [("word", 3), ("ranges", 4)] rfl scLeafWord.nd (di_tup (de_var 2)) (fun _ _ _ _ _ => (dg_tup (n := 2) rfl (dgs_cons (dg_name 3 scLeafWord.nd) (dgs_cons (dg_name 4 scLeafWord.nd) dgs_nil)))) (fun _ _ _ _ _ => dts_nil) (fun _ _ _ _ _ => (de_cmp op_notN l_notN (de_var 3) de_non)) (blk_ok (N := ["points", "number", "cell", "word", "ranges", "sure", "near", "least", "most"]) (sc := defScope sLeafWord) rfl rfl (by decide +kernel))) da_nil))))
      (dss_one (ds_ret de_str))
      dss_nil)
      (dss_cons (ds_asg (de_fn c_cell_told hr (df_cons (de_var 0) (df_cons (de_var 2) df_nil))) (dg_tup (n := 4) rfl (dgs_cons (dg_name 5 scLeafWord.nd) (dgs_cons (dg_name 6 scLeafWord.nd) (dgs_cons (dg_name 7 scLeafWord.nd) (dgs_cons (dg_name 8 scLeafWord.nd) dgs_nil))))))
      (dss_cons (ds_if (dt_val (de_fn c_is_below hr (df_cons (de_var 1) (df_cons (de_fn c_less hr (df_cons (de_fn c_fraction hr (df_cons (de_op op_add l_I0 (de_var 5) (de_var 6)) (df_cons (de_callB call_len_seq l_len B.len PySem.boot_len (da_cons (de_var 0) da_nil)) df_nil))) (df_cons (de_var 7) df_nil))) df_nil))))
      (dss_one (ds_ret de_str))
      dss_nil)
      (dss_cons (ds_if (dt_val (de_fn c_is_below hr (df_cons (de_var 1) (df_cons (de_fn c_less hr (df_cons (de_var 8) (df_cons (de_fn c_fraction hr (df_cons (de_var 5) (df_cons (de_callB call_len_seq l_len B.len PySem.boot_len (da_cons (de_var 0) da_nil)) df_nil))) df_nil))) df_nil))))
      (dss_one (ds_ret de_str))
      dss_nil)
      (dss_one (ds_ret de_str)))))), ?c⟩
  case len =>
    intro ds G h
    simp only [cLeafWord] at h
    repeat obtain ⟨_, h⟩ := h
    simp [*]
  case c =>
    intro ds G h0
    obtain ⟨pts, num, cell, rfl, hc, hp, hn, ho, hl, h⟩ := h0
    have g1 := sm_vLo (fun c hc' => (hc.1 c hc').1) (show cell.length ≤ 2 by have := hc.2; omega)
    have hle := cnt_le pts cell
    have f1 := sm_frac (k := cntS pts cell + cntN pts cell) hle hp.2.1 hp.2.2
    have f2 := sm_frac (k := cntS pts cell) (n := pts.length) (by omega) hp.2.1 hp.2.2
    have s1 := sm_sz g1.1
    have s2 := sm_sz g1.2
    have s3 := sm_sz f1
    have s4 := sm_sz f2
    have s5 := sm_sz (Sm.sub f1 g1.1)
    have s6 := sm_sz (Sm.sub g1.2 f2)
    have s7 := sm_sz hn
    have b1 : (cntS pts cell + cntN pts cell) < 2 ^ 8900 := Nat.lt_of_le_of_lt (Nat.le_trans hle hp.2.2) (Nat.lt_of_lt_of_le (show 8 < 2 ^ 4 by decide) (Nat.pow_le_pow_right (by decide) (by decide)))
    have b2 : pts.length < 2 ^ 8900 := Nat.lt_of_le_of_lt hp.2.2 (Nat.lt_of_lt_of_le (show 8 < 2 ^ 4 by decide) (Nat.pow_le_pow_right (by decide) (by decide)))
    have b3 : cntS pts cell < 2 ^ 8900 := by omega
    have b4 : 0 < pts.length := by have := hp.2.1; omega
    have ho' : ¬ num < mkRat ((cntS pts cell : Int) + cntN pts cell) pts.length - vLo cell := fun z => absurd ho (Rat.not_le.mpr z)
    have hl' : ¬ num < vHi cell - mkRat (cntS pts cell) pts.length := fun z => absurd hl (Rat.not_le.mpr z)
    refine ⟨_, rfl, _, rfl, by rw [List.length_map]; have := hc.2; omega, compD_map eCS (fun _ => .bl true) cell [] ?_ ⟨cell.map fun _ => true, by rw [List.nil_append, map_bl], ?_⟩⟩
    · intro c hc' F G' hF
      have := (hc.1 c hc').2
      simp [eCS, this]
      exact hF
    · refine ⟨_, rfl, ?_⟩
      have : (List.map (fun _ => true) cell).all id = true := by simp
      rw [this]
      show if (!true) = true then _ else _
      rw [if_neg (by decide)]
      refine ⟨_, rfl, _, rfl, pts, cell, rfl, hc, hp.1, ?_⟩
      simp [s1, s2, s3, s4, s5, s6, s7, ePts, b1, b2, b3, b4, ho', hl'] at s3 s5 ho' hl' ⊢
      exact ⟨by omega, s3, s5, h⟩
end
end EP

set_option Elab.async false
set_option linter.all false
set_option maxRecDepth 100000
set_option maxHeartbeats 4000000
namespace EP
open PySem PySem.Spec PyProof.Rows L2 DL
@[simp] theorem ix4 (a b c d e : D) (l : List D) : ixD (.tup (a :: b :: c :: d :: e :: l)) (.int 4) = some e := ix_nat (a :: b :: c :: d :: e :: l) 4
@[simp] theorem ix5 (a b c d e f : D) (l : List D) : ixD (.tup (a :: b :: c :: d :: e :: f :: l)) (.int 5) = some f := ix_nat (a :: b :: c :: d :: e :: f :: l) 5
theorem strOk_cut : PyData.strOk "cut" = true := by decide +kernel
theorem strOk_ways : PyData.strOk "ways" = true := by decide +kernel
theorem plain_eTr : ∀ (T : Tr) (n : Nat), ht T + 2 ≤ n → plainD n (eTr T) = true
  | .leaf, n + 1, _ => by simp [eTr, plainD, plainDs]
  | .cut s q a P Q, n + 1, h => by
    simp only [ht] at h
    have h1 := plain_eTr P n (by omega)
    have h2 := plain_eTr Q n (by omega)
    match n, h with
    | n + 1, h => simp [eTr, plainD, plainDs, h1, h2, strOk_cut, eBit]
  | .ways s P Q, n + 1, h => by
    simp only [ht] at h
    have h1 := plain_eTr P n (by omega)
    have h2 := plain_eTr Q n (by omega)
    simp [eTr, plainD, plainDs, h1, h2, strOk_ways]
def isLeaf : Tr → Bool
  | .leaf => true
  | _ => false
theorem eqv_leaf (T : Tr) : PyData.eqv (pyD (eTr T)) (pyD (.tup [])) = isLeaf T := by
  cases T <;> simp [eTr, pyD, pyDs, PyData.eqv, PyData.eqvAll, isLeaf]
theorem mem_modify {α : Type} {l : List α} {s : Nat} {f : α → α} {x : α} (h : x ∈ l.modify s f) : x ∈ l ∨ ∃ y ∈ l, l[s]? = some y ∧ x = f y := by
  obtain ⟨i, hi⟩ := List.mem_iff_getElem?.mp h
  rw [List.getElem?_modify] at hi
  by_cases e : s = i
  · subst e
    cases q : l[s]? with
    | none =>
      rw [q] at hi
      simp at hi
    | some y =>
      rw [q] at hi
      simp at hi
      exact .inr ⟨y, List.mem_iff_getElem?.mpr ⟨s, q⟩, rfl, hi.symm⟩
  · simp [e] at hi
    exact .inl (List.mem_iff_getElem?.mpr ⟨i, hi⟩)
theorem CellF.low {f : Fam} {cell : Cell} {s : Nat} {q : Bool} {a : Rat} (h : CellF f cell) (ha : Sm 50 a) : CellF f (cell.modify s (CS.low q a)) := by
  refine ⟨fun c hc => ?_, by rw [List.length_modify]; exact h.2⟩
  rcases mem_modify hc with hc | ⟨y, hy, _, rfl⟩
  · exact h.1 c hc
  · obtain ⟨⟨h1, h2, h3, h4⟩, h5⟩ := h.1 y hy
    cases q
    · exact ⟨⟨h1, ha, h3, h4⟩, h5⟩
    · exact ⟨⟨h1, h2, h3, ha⟩, h5⟩
theorem CellF.high {f : Fam} {cell : Cell} {s : Nat} {q : Bool} {a : Rat} (h : CellF f cell) (ha : Sm 50 a) : CellF f (cell.modify s (CS.high q a)) := by
  refine ⟨fun c hc => ?_, by rw [List.length_modify]; exact h.2⟩
  rcases mem_modify hc with hc | ⟨y, hy, _, rfl⟩
  · exact h.1 c hc
  · obtain ⟨⟨h1, h2, h3, h4⟩, h5⟩ := h.1 y hy
    cases q
    · exact ⟨⟨ha, h2, h3, h4⟩, h5⟩
    · exact ⟨⟨h1, h2, ha, h4⟩, h5⟩
theorem CellF.word {f : Fam} {cell : Cell} {s : Nat} {w : Wd} (h : CellF f cell) (hf : f ≠ .corner) (hw : w ≠ .to) : CellF f (cell.modify s (CS.word w)) := by
  refine ⟨fun c hc => ?_, by rw [List.length_modify]; exact h.2⟩
  rcases mem_modify hc with hc | ⟨y, hy, _, rfl⟩
  · exact h.1 c hc
  · obtain ⟨h1, h5⟩ := h.1 y hy
    exact ⟨h1, ⟨fun e => absurd e hw, fun e => absurd e hf⟩⟩
theorem getC_mem {cell : Cell} {s : Nat} (h : s < cell.length) : getC cell s ∈ cell := List.mem_iff_getElem?.mpr ⟨s, get_getC h⟩
theorem mx_le {a b c : Rat} : mx a b ≤ c ↔ a ≤ c ∧ b ≤ c := by
  unfold mx
  by_cases h : a < b
  · rw [if_pos h]
    exact ⟨fun h1 => ⟨Rat.le_trans (Rat.le_of_lt h) h1, h1⟩, fun h1 => h1.2⟩
  · rw [if_neg h]
    exact ⟨fun h1 => ⟨h1, Rat.le_trans (Rat.not_lt.mp h) h1⟩, fun h1 => h1.1⟩
theorem CellF.ok {f : Fam} {cell : Cell} (h : CellF f cell) (hw : Wf f cell .leaf) : CellOk cell := ⟨fun c hc => ⟨(h.1 c hc).1, hw c hc⟩, h.2⟩
section
variable {P : Program} {w : World} {K : PySem.W.Frag} {mg : Str → Option Value} {base : Heap}
abbrev sSidesOf : Stmt := topS 28
theorem scSidesOf : FnScope ["points"] ["points"] (defScope sSidesOf) := ⟨rfl, rfl, rfl, by decide +kernel, rfl, by decide +kernel, by decide +kernel⟩
@[simp] def cSidesOf : Ct := fun ds F => ∃ (n : Nat) (pts : List Pt), ds = [ePts pts] ∧ PtsOk n pts ∧ F (.int (n : Int))
theorem ok_sides_of (d : Def K mg "sides_of" "sides_of" sSidesOf ["points"]) (B : Blt mg) : Cal P w K mg base "sides_of" 1 ["points"] cSidesOf := by
  refine cal_of d scSidesOf ?len ⟨_, fun f cdv A outer s H E hr => (dss_one (ds_ret (de_callB call_len_seq l_len B.len PySem.boot_len (da_cons (de_ix ix_any l_ix (de_var 0) de_int) da_nil)))), ?c⟩
  case len =>
    intro ds G h
    simp only [cSidesOf] at h
    repeat obtain ⟨_, h⟩ := h
    simp [*]
  case c =>
    intro ds G h0
    obtain ⟨n, pts, rfl, hp, h⟩ := h0
    match pts, hp with
    | [], hp => exact absurd hp.2.1 (by simp)
    | p :: pts, hp =>
      have := (hp.1 p (by simp)).1
      simp [ePts, ePt, this]
      exact h
abbrev sFirstCell : Stmt := topS 33
theorem scFirstCell : FnScope ["s", "family", "word"] ["s", "family"] (defScope sFirstCell) := ⟨rfl, rfl, rfl, by decide +kernel, rfl, by decide +kernel, by decide +kernel⟩
@[simp] def cFirstCell : Ct := fun ds F => ∃ (n : Nat) (f : Fam), ds = [.int (n : Int), eF f] ∧ (n = 1 ∨ n = 2) ∧ F (eCell (first n f))
theorem ok_first_cell (d : Def K mg "first_cell" "first_cell" sFirstCell ["s", "family"]) (k_WHOLE_RANGE : Con K mg "WHOLE_RANGE" (eR wh)) : Cal P w K mg base "first_cell" 1 ["s", "family"] cFirstCell := by
  refine cal_of d scFirstCell ?len ⟨_, fun f cdv A outer s H E hr => (dss_cons (ds_if (dt_cmp op_eq l_eq (de_var 1) de_str)
      (dss_one (ds_ret (de_op op_repA l_repT (de_tup (da_cons (de_tup (da_cons de_str (da_cons (de_tup (da_cons (de_con k_WHOLE_RANGE) da_nil)) da_nil))) da_nil)) (de_var 0))))
      dss_nil)
      (dss_cons (ds_set 2 scFirstCell.nd (de_if (dt_cmp op_eq l_eq (de_var 1) de_str) de_str de_non))
      (dss_one (ds_ret (de_op op_repA l_repT (de_tup (da_cons (de_tup (da_cons (de_var 2) (da_cons (de_tup (da_cons (de_con k_WHOLE_RANGE) (da_cons (de_con k_WHOLE_RANGE) da_nil))) da_nil))) da_nil)) (de_var 0)))))), ?c⟩
  case len =>
    intro ds G h
    simp only [cFirstCell] at h
    repeat obtain ⟨_, h⟩ := h
    simp [*]
  case c =>
    intro ds G h0
    obtain ⟨n, f, rfl, hn, h⟩ := h0
    rcases hn with rfl | rfl <;> cases f <;> simp [eF] <;> exact h
abbrev sFaultAt : Stmt := topS 40
theorem scFaultAt : FnScope ["points", "family", "number", "cell", "path", "thing", "kind", "low", "high"] ["points", "family", "number", "cell", "path", "thing"] (defScope sFaultAt) := ⟨rfl, rfl, rfl, by decide +kernel, rfl, by decide +kernel, by decide +kernel⟩
@[simp] def cFaultAt : Ct := fun ds F => ∃ (pts : List Pt) (f : Fam) (num : Rat) (cell : Cell) (path : List D) (T : Tr), ds = [ePts pts, eF f, eQ num, eCell cell, .tup path, eTr T] ∧ CellF f cell ∧ PtsOk cell.length pts ∧ Sm 900 num ∧ Wf f cell T ∧ need pts cell T ≤ num ∧ path.length ≤ 36 ∧ F (.str "")
theorem ok_fault_at (d : Def K mg "fault_at" "fault_at" sFaultAt ["points", "family", "number", "cell", "path", "thing"]) (B : Blt mg) (k_MOST_PATH : Con K mg "MOST_PATH" (.int 36)) (c_kind_of : Cal P w K mg base "kind_of" 3 ["s", "family", "thing"] cKindOf) (c_leaf_word : Cal P w K mg base "leaf_word" 7 ["points", "number", "cell"] cLeafWord) (c_is_below : Cal P w K mg base "is_below" 1 ["one", "other"] cBelow) : Cal P w K mg base "fault_at" 8 ["points", "family", "number", "cell", "path", "thing"] cFaultAt := by
  refine cal_of d scFaultAt ?len ⟨_, fun f cdv A outer s H E hr => (dss_cons (ds_if (dt_cmp op_gt l_B0 (de_callB call_len_seq l_len B.len PySem.boot_len (da_cons (de_var 4) da_nil)) (de_con k_MOST_PATH))
      (dss_one (ds_ret de_str))
      dss_nil)
      (dss_cons (ds_set 6 scFaultAt.nd (de_fn c_kind_of hr (df_cons (de_callB call_len_seq l_len B.len PySem.boot_len (da_cons (de_var 3) da_nil)) (df_cons (de_var 1) (df_cons (de_var 5) df_nil)))))
      (dss_cons (ds_if (dt_cmp op_isN l_isN (de_var 6) de_non)
      (dss_one (ds_ret de_str))
      dss_nil)
      (dss_cons (ds_if (dt_cmp op_eq l_eq (de_var 6) de_str)
      (dss_one (ds_ret (de_fn c_leaf_word hr (df_cons (de_var 0) (df_cons (de_var 2) (df_cons (de_var 3) df_nil))))))
      dss_nil)
      (dss_cons (ds_if (dt_cmp op_eq l_eq (de_var 6) de_str)
      (dss_one (ds_ret (de_if (DW.dt (dw_or (dt_cmp op_ne l_ne (de_var 1) de_str) (dw_or1 (dt_cmp op_notN l_notN (de_ix ix_any l_ix (de_ix ix_any l_ix (de_var 3) (de_ix ix_any l_ix (de_var 5) de_int)) de_int) de_non)))) de_str de_str)))
      dss_nil)
      (dss_cons (ds_asg (de_ix ix_any l_ix (de_ix ix_any l_ix (de_ix ix_any l_ix (de_var 3) (de_ix ix_any l_ix (de_var 5) de_int)) de_int) (de_ix ix_any l_ix (de_var 5) de_int)) (dg_tup (n := 2) rfl (dgs_cons (dg_name 7 scFaultAt.nd) (dgs_cons (dg_name 8 scFaultAt.nd) dgs_nil))))
      (dss_one (ds_ret (de_if (DW.dt (dw_and (dt_val (de_fn c_is_below hr (df_cons (de_var 7) (df_cons (de_ix ix_any l_ix (de_var 5) de_int) df_nil)))) (dw_and1 (dt_val (de_fn c_is_below hr (df_cons (de_ix ix_any l_ix (de_var 5) de_int) (df_cons (de_var 8) df_nil))))))) de_str de_str))))))))), ?c⟩
  case len =>
    intro ds G h
    simp only [cFaultAt] at h
    repeat obtain ⟨_, h⟩ := h
    simp [*]
  case c =>
    intro ds G h0
    obtain ⟨pts, f, num, cell, path, T, rfl, hc, hp, hn, hw, hd, hl, h⟩ := h0
    have hl' : ¬ ((36 : Int) < (path.length : Int)) := by omega
    have hlc : (List.map eCS cell).length = cell.length := by simp
    cases T with
    | leaf =>
      have := mx_le.mp hd
      simp [hl']
      refine ⟨_, rfl, cell.length, by simp [eCell], .leaf, rfl, trivial, ?_⟩
      simp [kindS]
      exact ⟨_, rfl, cell, rfl, hc.ok hw, hp, hn, this.1, this.2, h⟩
    | ways s P Q =>
      obtain ⟨h1, h2, h3, _⟩ := hw
      subst h2
      simp [hl']
      refine ⟨_, rfl, cell.length, by simp [eCell], .ways s P Q, rfl, h1, ?_⟩
      simp [kindS, eF, eTr, eCell, get_map h1, eCS, h3]
      exact h
    | cut s q a P Q =>
      obtain ⟨h1, h2, h3, h4, h5, _⟩ := hw
      have hm := hc.1 _ (getC_mem h1)
      have hq : (getC cell s).w = .to → q = false := fun e => by
        cases q
        · rfl
        · exact absurd (hm.2.mp e) (h2 rfl)
      have e3 := eRs_ix q _ hq
      have s1 : Sz ((getC cell s).rng q).1 := by
        cases q
        · exact sm_sz hm.1.1
        · exact sm_sz hm.1.2.2.1
      have s2 : Sz ((getC cell s).rng q).2 := by
        cases q
        · exact sm_sz hm.1.2.1
        · exact sm_sz hm.1.2.2.2
      have s3 := sm_sz h3
      simp [hl']
      refine ⟨_, rfl, cell.length, by simp [eCell], .cut s q a P Q, rfl, ⟨h1, h2⟩, ?_⟩
      simp [kindS, eF, eTr, eCell, get_map h1, eCS, eBit, e3, h4, h5, s1, s2, s3]
      exact h
abbrev sLookOver : Stmt := topS 42
theorem scLookOver : FnScope ["points", "family", "number", "cell", "path", "thing", "word", "cells", "k"] ["points", "family", "number", "cell", "path", "thing"] (defScope sLookOver) := ⟨rfl, rfl, rfl, by decide +kernel, rfl, by decide +kernel, by decide +kernel⟩
@[simp] def cLook (n : Nat) : Ct := fun ds F => ∃ (pts : List Pt) (f : Fam) (num : Rat) (cell : Cell) (path : List D) (T : Tr), ds = [ePts pts, eF f, eQ num, eCell cell, .tup path, eTr T] ∧ CellF f cell ∧ PtsOk cell.length pts ∧ Sm 900 num ∧ Wf f cell T ∧ need pts cell T ≤ num ∧ path.length + ht T ≤ 36 ∧ ht T < n ∧ F .non
theorem ok_look_over_step (n : Nat) (d : Def K mg "look_over" "look_over" sLookOver ["points", "family", "number", "cell", "path", "thing"]) (B : Blt mg) (c_fault_at : Cal P w K mg base "fault_at" 8 ["points", "family", "number", "cell", "path", "thing"] cFaultAt) (c_cells_behind : Cal P w K mg base "cells_behind" 3 ["cell", "thing"] cBehind) (c_look_over : Cal P w K mg base "look_over" (8 + n) ["points", "family", "number", "cell", "path", "thing"] (cLook n)) : Cal P w K mg base "look_over" (8 + n + 1) ["points", "family", "number", "cell", "path", "thing"] (cLook (n + 1)) := by
  refine cal_of d scLookOver ?len ⟨_, fun f cdv A outer s H E hr => (dss_cons (ds_set 6 scLookOver.nd (de_fn c_fault_at hr (hjk := by omega) (df_cons (de_var 0) (df_cons (de_var 1) (df_cons (de_var 2) (df_cons (de_var 3) (df_cons (de_var 4) (df_cons (de_var 5) df_nil))))))))
      (dss_cons (ds_if (dt_cmp op_ne l_ne (de_var 6) de_str)
      (dss_one ds_never)
      dss_nil)
      (dss_one (ds_if (dt_cmp (op_neD (hr.units)) l_neD (de_var 5) (de_tup da_nil))
      (dss_cons (ds_set 7 scLookOver.nd (de_fn c_cells_behind hr (hjk := by omega) (df_cons (de_var 3) (df_cons (de_var 5) df_nil))))
      (dss_one (ds_for PassesOwn.never rfl (di_range B.range de_int) (dg_name 8 scLookOver.nd)
      (dss_one (ds_expr (de_fn c_look_over hr (hjk := by omega) (df_cons (de_var 0) (df_cons (de_var 1) (df_cons (de_var 2) (df_cons (de_ix ix_any l_ix (de_var 7) (de_var 8)) (df_cons (de_op op_catA l_catT (de_var 4) (de_tup (da_cons (de_var 8) da_nil))) (df_cons (de_ix ix_any l_ix (de_var 5) (de_op op_add l_I0 (de_op op_sub l_I0 (de_callB call_len_seq l_len B.len PySem.boot_len (da_cons (de_var 5) da_nil)) de_int) (de_var 8))) df_nil))))))))))))
      dss_nil)))), ?c⟩
  case len =>
    intro ds G h
    simp only [cLook] at h
    repeat obtain ⟨_, h⟩ := h
    simp [*]
  case c =>
    intro ds G h0
    obtain ⟨pts, f, num, cell, path, T, rfl, hc, hp, hn, hw, hd, hl, hh, h⟩ := h0
    have e1 := plain_eTr T 64 (by omega)
    have e2 := eqv_leaf T
    simp
    refine ⟨pts, rfl, cell, rfl, T, rfl, hc, hp, hn, hw, hd, by omega, ?_⟩
    simp [e1, e2, plainD, plainDs]
    cases T with
    | leaf =>
      simp [isLeaf]
      exact h
    | cut s q a P Q =>
      obtain ⟨h1, h2, h3, h4, h5, h6, h7⟩ := hw
      obtain ⟨d1, d2⟩ := mx_le.mp hd
      have hm := hc.1 _ (getC_mem h1)
      have hq : (getC cell s).w = .to → q = false := fun e => by
        cases q
        · rfl
        · exact absurd (hm.2.mp e) (h2 rfl)
      have hlen := hc.2
      simp only [ht] at hl hh
      simp [isLeaf]
      refine ⟨cell, rfl, .cut s q a P Q, rfl, ⟨h1, hq⟩, by omega, ?_⟩
      simp [kidsT, rangeD, List.range, List.range.loop, ForD, eTr]
      refine ⟨by omega, pts, rfl, _, rfl, P, rfl, hc.low h3, by simpa using hp, hn, h6, d1, by omega, by omega, by omega, pts, rfl, _, rfl, Q, rfl, hc.high h3, by simpa using hp, hn, h7, d2, by omega, by omega, h⟩
    | ways s P Q =>
      obtain ⟨h1, h2, h3, h6, h7⟩ := hw
      obtain ⟨d1, d2⟩ := mx_le.mp hd
      have hm := hc.1 _ (getC_mem h1)
      have hlen := hc.2
      simp only [ht] at hl hh
      simp [isLeaf]
      refine ⟨cell, rfl, .ways s P Q, rfl, ⟨h1, by rw [h3]; simp⟩, by omega, ?_⟩
      simp [kidsT, rangeD, List.range, List.range.loop, ForD, eTr]
      refine ⟨by omega, pts, rfl, _, rfl, P, rfl, hc.word (by rw [h2]; simp) (by simp), by simpa using hp, hn, h6, d1, by omega, by omega, by omega, pts, rfl, _, rfl, Q, rfl, hc.word (by rw [h2]; simp) (by simp), by simpa using hp, hn, h7, d2, by omega, by omega, h⟩
theorem ok_look_over (d : Def K mg "look_over" "look_over" sLookOver ["points", "family", "number", "cell", "path", "thing"]) (B : Blt mg) (c_fault_at : Cal P w K mg base "fault_at" 8 ["points", "family", "number", "cell", "path", "thing"] cFaultAt) (c_cells_behind : Cal P w K mg base "cells_behind" 3 ["cell", "thing"] cBehind) : ∀ n, Cal P w K mg base "look_over" (8 + n) ["points", "family", "number", "cell", "path", "thing"] (cLook n)
  | 0 => ((cal_false d).mono (Nat.zero_le _)).imp (fun ds F h => by
    simp [cLook] at h)
  | n + 1 => ok_look_over_step n d B c_fault_at c_cells_behind (ok_look_over d B c_fault_at c_cells_behind n)
abbrev sLetsEven : Stmt := topS 43
theorem scLetsEven : FnScope ["points", "family", "number", "thing"] ["points", "family", "number", "thing"] (defScope sLetsEven) := ⟨rfl, rfl, rfl, by decide +kernel, rfl, by decide +kernel, by decide +kernel⟩
@[simp] def cLets : Ct := fun ds F => ∃ (pts : List Pt) (f : Fam) (n : Nat) (num : Rat) (T : Tr), ds = [ePts pts, eF f, eQ num, eTr T] ∧ (n = 1 ∨ n = 2) ∧ PtsOk n pts ∧ Sm 900 num ∧ Wf f (first n f) T ∧ need pts (first n f) T ≤ num ∧ ht T ≤ 36 ∧ F (.bl true)
theorem first_ok (n : Nat) (f : Fam) (hn : n = 1 ∨ n = 2) : CellF f (first n f) := by
  refine ⟨fun c hc => ?_, by simpa [first] using hn⟩
  unfold first at hc
  have := List.eq_of_mem_replicate hc
  subst this
  have a := Sm.mono sm_neg (show 1 ≤ 50 by decide)
  have b := Sm.mono sm_one (show 1 ≤ 50 by decide)
  refine ⟨⟨a, b, a, b⟩, ?_⟩
  cases f <;> simp [firstC]
theorem ok_lets_even (d : Def K mg "lets_even" "lets_even" sLetsEven ["points", "family", "number", "thing"]) (c_look_over : Cal P w K mg base "look_over" 45 ["points", "family", "number", "cell", "path", "thing"] (cLook 37)) (c_first_cell : Cal P w K mg base "first_cell" 1 ["s", "family"] cFirstCell) (c_sides_of : Cal P w K mg base "sides_of" 1 ["points"] cSidesOf) : Cal P w K mg base "lets_even" 46 ["points", "family", "number", "thing"] cLets := by
  refine cal_of d scLetsEven ?len ⟨_, fun f cdv A outer s H E hr => (dss_cons (ds_expr (de_fn c_look_over hr (df_cons (de_var 0) (df_cons (de_var 1) (df_cons (de_var 2) (df_cons (de_fn c_first_cell hr (df_cons (de_fn c_sides_of hr (df_cons (de_var 0) df_nil)) (df_cons (de_var 1) df_nil))) (df_cons (de_tup da_nil) (df_cons (de_var 3) df_nil))))))))
      (dss_one (ds_ret de_bl))), ?c⟩
  case len =>
    intro ds G h
    simp only [cLets] at h
    repeat obtain ⟨_, h⟩ := h
    simp [*]
  case c =>
    intro ds G h0
    obtain ⟨pts, f, n, num, T, rfl, hn, hp, hs, hw, hd, hh, h⟩ := h0
    simp
    refine ⟨n, pts, rfl, hp, n, rfl, hn, pts, rfl, first n f, rfl, T, rfl, first_ok n f hn, by simpa [first] using hp, hs, hw, hd, by omega, by omega, h⟩
end
end EP

set_option Elab.async false
set_option linter.all false
set_option maxRecDepth 100000
set_option maxHeartbeats 4000000
namespace EP
open PySem PySem.Spec PyProof.Rows L2 DL
def BSm (s : BS) : Prop := Sm 50 s.a ∧ Sm 50 s.b ∧ s.w ≠ .un
def eWay (shut : Bool) : D := .str (if shut = true then "shut" else "open")
@[simp] theorem argS_eWay (b : Bool) : argS (eWay b) = .val (eWay b) := rfl
@[simp] theorem eWay_inj {a b : Bool} : eWay a = eWay b ↔ a = b := by cases a <;> cases b <;> simp [eWay]
theorem sm_bs {s : BS} (h : BSm s) : Sm 110 s.size := by
  obtain ⟨ha, hb, -⟩ := h
  have h1 := Sm.sub (sm_m0 hb) (sm_m0 ha)
  unfold BS.size
  split
  · exact Sm.mono (sm_m0 ha) (by decide)
  · exact Sm.mono (sm_m0 h1) (by decide)
  · split
    · exact Sm.mono sm_one (by decide)
    · exact Sm.mono (Sm.add sm_one h1) (by decide)
theorem sm_bsize {box : Box} (h : ∀ c ∈ box, BSm c) (hl : box.length ≤ 2) : Sm 300 (bsize box) := by
  match box, hl, h with
  | [], _, _ => exact Sm.mono sm_one (by decide)
  | [c], _, h => exact Sm.mono (Sm.mul sm_one (sm_bs (h c (by simp)))) (by decide)
  | [c, d], _, h => exact Sm.mono (Sm.mul (Sm.mul sm_one (sm_bs (h c (by simp)))) (sm_bs (h d (by simp)))) (by decide)
section
variable {P : Program} {w : World} {K : PySem.W.Frag} {mg : Str → Option Value} {base : Heap}
abbrev sSideSize : Stmt := topS 47
theorem scSideSize : FnScope ["side", "found"] ["side"] (defScope sSideSize) := ⟨rfl, rfl, rfl, by decide +kernel, rfl, by decide +kernel, by decide +kernel⟩
@[simp] def cSideSize : Ct := fun ds F => ∃ (s : BS), ds = [eBS s] ∧ BSm s ∧ F (eQ s.size)
theorem ok_side_size (d : Def K mg "side_size" "side_size" sSideSize ["side"]) (k_ONE_fractions : Con K mg "ONE_fractions" (eQ 1)) (k_NOUGHT_fractions : Con K mg "NOUGHT_fractions" (eQ 0)) (c_less : Cal P w K mg base "less" 3 ["one", "other"] cLess) (c_from_nought_boxes : Cal P w K mg base "from_nought_boxes" 2 ["one"] cNought) (c_is_below : Cal P w K mg base "is_below" 1 ["one", "other"] cBelow) (c_plus : Cal P w K mg base "plus" 3 ["one", "other"] cPlus) : Cal P w K mg base "side_size" 4 ["side"] cSideSize := by
  refine cal_of d scSideSize ?len ⟨_, fun f cdv A outer s H E hr => (dss_cons (ds_if (dt_cmp op_eq l_eq (de_ix ix_any l_ix (de_var 0) de_int) de_str)
      (dss_one (ds_ret (de_fn c_from_nought_boxes hr (df_cons (de_ix ix_any l_ix (de_var 0) de_int) df_nil))))
      dss_nil)
      (dss_cons (ds_set 1 scSideSize.nd (de_fn c_less hr (df_cons (de_fn c_from_nought_boxes hr (df_cons (de_ix ix_any l_ix (de_var 0) de_int) df_nil)) (df_cons (de_fn c_from_nought_boxes hr (df_cons (de_ix ix_any l_ix (de_var 0) de_int) df_nil)) df_nil))))
      (dss_cons (ds_if (dt_cmp op_eq l_eq (de_ix ix_any l_ix (de_var 0) de_int) de_str)
      (dss_one (ds_ret (de_fn c_from_nought_boxes hr (df_cons (de_var 1) df_nil))))
      dss_nil)
      (dss_one (ds_ret (de_if (dt_val (de_fn c_is_below hr (df_cons (de_con k_NOUGHT_fractions) (df_cons (de_var 1) df_nil)))) (de_con k_ONE_fractions) (de_fn c_plus hr (df_cons (de_con k_ONE_fractions) (df_cons (de_var 1) df_nil))))))))), ?c⟩
  case len =>
    intro ds G h
    simp only [cSideSize] at h
    repeat obtain ⟨_, h⟩ := h
    simp [*]
  case c =>
    intro ds G h0
    obtain ⟨⟨w, a, b⟩, rfl, ⟨ha, hb, hw⟩, h⟩ := h0
    have h1 := sm_sz ha
    have h2 := sm_sz hb
    have h3 := sm_sz (sm_m0 ha)
    have h4 := sm_sz (sm_m0 hb)
    have h5 := sm_sz (Sm.sub (sm_m0 hb) (sm_m0 ha))
    by_cases c : 0 < m0 b - m0 a <;> cases w <;> simp [eBS, eW, BS.size, c, h1, h2, h3, h4, h5] at hw h h1 h2 ⊢ <;> (try simp [h1, h2, h3, h4, h5, c]) <;> exact h
abbrev sSizeOf : Stmt := topS 48
theorem scSizeOf : FnScope ["box", "found", "side"] ["box"] (defScope sSizeOf) := ⟨rfl, rfl, rfl, by decide +kernel, rfl, by decide +kernel, by decide +kernel⟩
@[simp] def cSizeOf : Ct := fun ds F => ∃ (box : Box), ds = [eBox box] ∧ (∀ c ∈ box, BSm c) ∧ box.length ≤ 2 ∧ F (eQ (bsize box))
theorem ok_size_of (d : Def K mg "size_of" "size_of" sSizeOf ["box"]) (k_ONE_fractions : Con K mg "ONE_fractions" (eQ 1)) (c_times : Cal P w K mg base "times" 3 ["one", "other"] cTimes) (c_side_size : Cal P w K mg base "side_size" 4 ["side"] cSideSize) : Cal P w K mg base "size_of" 5 ["box"] cSizeOf := by
  refine cal_of d scSizeOf ?len ⟨_, fun f cdv A outer s H E hr => (dss_cons (ds_set 1 scSizeOf.nd (de_con k_ONE_fractions))
      (dss_cons (ds_for PassesOwn.never rfl (di_tup (de_var 0)) (dg_name 2 scSizeOf.nd)
      (dss_one (ds_set 1 scSizeOf.nd (de_fn c_times hr (df_cons (de_var 1) (df_cons (de_fn c_side_size hr (df_cons (de_var 2) df_nil)) df_nil))))))
      (dss_one (ds_ret (de_var 1))))), ?c⟩
  case len =>
    intro ds G h
    simp only [cSizeOf] at h
    repeat obtain ⟨_, h⟩ := h
    simp [*]
  case c =>
    intro ds G h0
    obtain ⟨box, rfl, hb, hl, h⟩ := h0
    refine ⟨_, rfl, _, rfl, ?_⟩
    refine forD_inv eBS (fun cs ρ => ∃ (pre : Box) (o : Option S), pre ++ cs = box ∧ ρ = [some (.val (eBox box)), some (.val (eQ (bsize pre))), o]) ?_ ?_ box _ ⟨[], none, rfl, rfl⟩
    · rintro c cs ρ N hN ⟨pre, o, e, rfl⟩
      have hm : c ∈ box := by rw [← e]; simp
      have hlen : pre.length + cs.length + 1 ≤ 2 := by
        have := congrArg List.length e
        simp at this
        omega
      have h1 := sm_sz (sm_bs (hb c hm))
      have h2 := sm_sz (sm_bsize (box := pre) (fun x hx => hb x (by rw [← e]; simp [hx])) (by omega))
      have e1 : bsize (pre ++ [c]) = bsize pre * c.size := by simp [bsize]
      have hn := hN [some (.val (eBox box)), some (.val (eQ (bsize pre * c.size))), some (.val (eBS c))] ⟨pre ++ [c], _, by simpa using e, by rw [e1]⟩
      simp [h2]
      exact ⟨c, rfl, hb c hm, h1, hn⟩
    · rintro ρ ⟨pre, o, e, rfl⟩
      rw [List.append_nil] at e
      subst e
      simp
      exact h
abbrev sIsBehind : Stmt := topS 49
theorem scIsBehind : FnScope ["x", "edge", "way"] ["x", "edge", "way"] (defScope sIsBehind) := ⟨rfl, rfl, rfl, by decide +kernel, rfl, by decide +kernel, by decide +kernel⟩
@[simp] def cIsBehind : Ct := fun ds F => ∃ (x e : Rat) (t : Bool), ds = [eQ x, eQ e, eWay t] ∧ Sm 50 x ∧ Sm 50 e ∧ F (.bl (behind t x e))
theorem ok_is_behind (d : Def K mg "is_behind" "is_behind" sIsBehind ["x", "edge", "way"]) (c_is_below : Cal P w K mg base "is_below" 1 ["one", "other"] cBelow) : Cal P w K mg base "is_behind" 2 ["x", "edge", "way"] cIsBehind := by
  refine cal_of d scIsBehind ?len ⟨_, fun f cdv A outer s H E hr => (dss_one (ds_ret (de_or (de_fn c_is_below hr (df_cons (de_var 1) (df_cons (de_var 0) df_nil))) (de_one (de_and (de_cmp (op_eqD (hr.units)) l_eqD (de_var 0) (de_var 1)) (de_one (de_cmp op_ne l_ne (de_var 2) de_str))))))), ?c⟩
  case len =>
    intro ds G h
    simp only [cIsBehind] at h
    repeat obtain ⟨_, h⟩ := h
    simp [*]
  case c =>
    intro ds G h0
    obtain ⟨x, e, t, rfl, h1, h2, h⟩ := h0
    have h1 := sm_sz h1
    have h2 := sm_sz h2
    by_cases c : e < x <;> by_cases c2 : x = e <;> cases t <;> simp [behind, c, c2, h1, h2, eWay] at h h1 ⊢ <;> first | exact h | (simp [c2, h1, h2] at c ⊢; try exact h)
abbrev sIsAhead : Stmt := topS 50
theorem scIsAhead : FnScope ["x", "edge", "way"] ["x", "edge", "way"] (defScope sIsAhead) := ⟨rfl, rfl, rfl, by decide +kernel, rfl, by decide +kernel, by decide +kernel⟩
@[simp] def cIsAhead : Ct := fun ds F => ∃ (x e : Rat) (t : Bool), ds = [eQ x, eQ e, eWay t] ∧ Sm 50 x ∧ Sm 50 e ∧ F (.bl (ahead t x e))
theorem ok_is_ahead (d : Def K mg "is_ahead" "is_ahead" sIsAhead ["x", "edge", "way"]) (c_is_below : Cal P w K mg base "is_below" 1 ["one", "other"] cBelow) : Cal P w K mg base "is_ahead" 2 ["x", "edge", "way"] cIsAhead := by
  refine cal_of d scIsAhead ?len ⟨_, fun f cdv A outer s H E hr => (dss_one (ds_ret (de_or (de_fn c_is_below hr (df_cons (de_var 0) (df_cons (de_var 1) df_nil))) (de_one (de_and (de_cmp (op_eqD (hr.units)) l_eqD (de_var 0) (de_var 1)) (de_one (de_cmp op_eq l_eq (de_var 2) de_str))))))), ?c⟩
  case len =>
    intro ds G h
    simp only [cIsAhead] at h
    repeat obtain ⟨_, h⟩ := h
    simp [*]
  case c =>
    intro ds G h0
    obtain ⟨x, e, t, rfl, h1, h2, h⟩ := h0
    have h1 := sm_sz h1
    have h2 := sm_sz h2
    by_cases c : x < e <;> by_cases c2 : x = e <;> cases t <;> simp [ahead, c, c2, h1, h2, eWay] at h h1 ⊢ <;> first | exact h | (simp [c2, h1, h2] at c ⊢; try exact h)
abbrev sLies : Stmt := topS 51
theorem scLies : FnScope ["x", "side", "way"] ["x", "side", "way"] (defScope sLies) := ⟨rfl, rfl, rfl, by decide +kernel, rfl, by decide +kernel, by decide +kernel⟩
@[simp] def cLies : Ct := fun ds F => ∃ (x : Rat) (s : BS) (t : Bool), ds = [eQ x, eBS s, eWay t] ∧ Sm 50 x ∧ BSm s ∧ F (.bl (s.lies t x))
theorem ok_lies (d : Def K mg "lies" "lies" sLies ["x", "side", "way"]) (c_is_ahead : Cal P w K mg base "is_ahead" 2 ["x", "edge", "way"] cIsAhead) (c_is_behind : Cal P w K mg base "is_behind" 2 ["x", "edge", "way"] cIsBehind) : Cal P w K mg base "lies" 3 ["x", "side", "way"] cLies := by
  refine cal_of d scLies ?len ⟨_, fun f cdv A outer s H E hr => (dss_cons (ds_if (dt_cmp op_eq l_eq (de_ix ix_any l_ix (de_var 1) de_int) de_str)
      (dss_one (ds_ret (de_fn c_is_ahead hr (df_cons (de_var 0) (df_cons (de_ix ix_any l_ix (de_var 1) de_int) (df_cons (de_var 2) df_nil))))))
      dss_nil)
      (dss_cons (ds_if (dt_cmp op_eq l_eq (de_ix ix_any l_ix (de_var 1) de_int) de_str)
      (dss_one (ds_ret (de_and (de_fn c_is_behind hr (df_cons (de_var 0) (df_cons (de_ix ix_any l_ix (de_var 1) de_int) (df_cons (de_var 2) df_nil)))) (de_one (de_fn c_is_ahead hr (df_cons (de_var 0) (df_cons (de_ix ix_any l_ix (de_var 1) de_int) (df_cons (de_var 2) df_nil))))))))
      dss_nil)
      (dss_one (ds_ret (de_or (de_fn c_is_behind hr (df_cons (de_var 0) (df_cons (de_ix ix_any l_ix (de_var 1) de_int) (df_cons (de_var 2) df_nil)))) (de_one (de_fn c_is_ahead hr (df_cons (de_var 0) (df_cons (de_ix ix_any l_ix (de_var 1) de_int) (df_cons (de_var 2) df_nil)))))))))), ?c⟩
  case len =>
    intro ds G h
    simp only [cLies] at h
    repeat obtain ⟨_, h⟩ := h
    simp [*]
  case c =>
    intro ds G h0
    obtain ⟨x, ⟨w, a, b⟩, t, rfl, h1, ⟨ha, hb, hw⟩, h⟩ := h0
    cases w <;> simp [eBS, eW, BS.lies, h1, ha, hb, -Bool.exists_bool] at hw h ha hb ⊢
    · exact h
    · cases c : behind t x a <;> simp [c] at h ⊢ <;> exact h
    · cases c : behind t x a <;> simp [c] at h ⊢ <;> exact h
abbrev sLiesIn : Stmt := topS 52
theorem scLiesIn : FnScope ["point", "box", "way", "x", "side"] ["point", "box", "way"] (defScope sLiesIn) := ⟨rfl, rfl, rfl, by decide +kernel, rfl, by decide +kernel, by decide +kernel⟩
@[simp] def cLiesIn : Ct := fun ds F => ∃ (p : Pt) (box : Box) (t : Bool), ds = [ePt p, eBox box, eWay t] ∧ (∀ x ∈ p, Sm 50 x) ∧ (∀ c ∈ box, BSm c) ∧ box.length ≤ 2 ∧ F (.bl (liesIn t box p))
theorem ok_lies_in (d : Def K mg "lies_in" "lies_in" sLiesIn ["point", "box", "way"]) (B : Blt mg) (c_lies : Cal P w K mg base "lies" 3 ["x", "side", "way"] cLies) : Cal P w K mg base "lies_in" 4 ["point", "box", "way"] cLiesIn := by
  refine cal_of d scLiesIn ?len ⟨_, fun f cdv A outer s H E hr => (dss_one (ds_ret (de_callB (cr_all rfl) l_all B.all boot_all_ (da_cons (de_comp [("x", 3), ("side", 4)] rfl scLiesIn.nd (di_zip false false B.zip (da_cons (de_var 0) (da_cons (de_var 1) da_nil))) (fun _ _ _ _ _ => (dg_tup (n := 2) rfl (dgs_cons (dg_name 3 scLiesIn.nd) (dgs_cons (dg_name 4 scLiesIn.nd) dgs_nil)))) (fun _ _ _ _ _ => dts_nil) (fun _ _ _ _ _ => (de_fn c_lies hr (df_cons (de_var 3) (df_cons (de_var 4) (df_cons (de_var 2) df_nil))))) (blk_ok (N := ["point", "box", "way", "x", "side"]) (sc := defScope sLiesIn) rfl rfl (by decide +kernel))) da_nil)))), ?c⟩
  case len =>
    intro ds G h
    simp only [cLiesIn] at h
    repeat obtain ⟨_, h⟩ := h
    simp [*]
  case c =>
    intro ds G h0
    obtain ⟨p, box, t, rfl, hp, hb, hl, h⟩ := h0
    have hzl : (p.zip box).length ≤ 100000 := by
      rw [List.length_zip]
      omega
    refine ⟨_, rfl, _, rfl, _, _, _, _, rfl, rfl, rfl, ?_⟩
    rw [zipD_map eQ eBS]
    refine ⟨by rw [List.length_map]; exact hzl, compD_map _ (fun z => .bl (z.2.lies t z.1)) _ _ ?_ ?_⟩
    · intro z hz F G hf
      have h1 := List.of_mem_zip (a := z.1) (b := z.2) hz
      simp [-Bool.exists_bool]
      exact ⟨z.2, rfl, hp _ h1.1, hb _ h1.2, hf⟩
    · refine ⟨(p.zip box).map fun z => z.2.lies t z.1, by rw [List.nil_append, map_bl], ?_⟩
      rw [List.all_map]
      exact h
abbrev sInside : Stmt := topS 53
theorem scInside : FnScope ["points", "box", "way", "point"] ["points", "box", "way"] (defScope sInside) := ⟨rfl, rfl, rfl, by decide +kernel, rfl, by decide +kernel, by decide +kernel⟩
@[simp] def cInside : Ct := fun ds F => ∃ (pts : List Pt) (n : Nat) (box : Box) (t : Bool), ds = [ePts pts, eBox box, eWay t] ∧ PtsOk n pts ∧ (∀ c ∈ box, BSm c) ∧ box.length ≤ 2 ∧ F (.int (pts.countP (liesIn t box) : Nat))
theorem ok_inside (d : Def K mg "inside" "inside" sInside ["points", "box", "way"]) (B : Blt mg) (c_lies_in : Cal P w K mg base "lies_in" 4 ["point", "box", "way"] cLiesIn) : Cal P w K mg base "inside" 5 ["points", "box", "way"] cInside := by
  refine cal_of d scInside ?len ⟨_, fun f cdv A outer s H E hr => (dss_one (ds_ret (de_callB call_len_seq l_len B.len PySem.boot_len (da_cons (de_comp [("point", 3)] rfl scInside.nd (di_tup (de_var 0)) (fun _ _ _ _ _ => (dg_name 3 scInside.nd)) (fun _ _ _ _ _ => (dts_one (dt_val (de_fn c_lies_in hr (df_cons (de_var 3) (df_cons (de_var 1) (df_cons (de_var 2) df_nil))))))) (fun _ _ _ _ _ => (de_var 3)) (blk_ok (N := ["points", "box", "way", "point"]) (sc := defScope sInside) rfl rfl (by decide +kernel))) da_nil)))), ?c⟩
  case len =>
    intro ds G h
    simp only [cInside] at h
    repeat obtain ⟨_, h⟩ := h
    simp [*]
  case c =>
    intro ds G h0
    obtain ⟨pts, n, box, t, rfl, hp, hb, hl, h⟩ := h0
    refine ⟨_, rfl, _, rfl, by rw [List.length_map]; have := hp.2.2; omega, compD_filter _ (liesIn t box) ePt _ _ ?_ ?_⟩
    · intro p hpm F G hf
      simp [-Bool.exists_bool]
      refine ⟨p, rfl, box, rfl, fun x hx => ((hp.1 p hpm).2 x hx).2.2, hb, hl, ?_⟩
      exact hf
    · refine ⟨_, _, rfl, rfl, ?_⟩
      rw [List.nil_append, List.length_map, ← List.countP_eq_length_filter]
      exact h
abbrev sOverOf : Stmt := topS 54
theorem scOverOf : FnScope ["points", "box"] ["points", "box"] (defScope sOverOf) := ⟨rfl, rfl, rfl, by decide +kernel, rfl, by decide +kernel, by decide +kernel⟩
def BoxSm (box : Box) : Prop := (∀ c ∈ box, BSm c) ∧ box.length ≤ 2
theorem cntB_le (pts : List Pt) (t : Bool) (box : Box) : pts.countP (liesIn t box) ≤ pts.length := List.countP_le_length
theorem pow_big {n : Nat} (h : n ≤ 8) : n < 2 ^ 8900 := Nat.lt_of_le_of_lt h (Nat.lt_of_lt_of_le (show 8 < 2 ^ 4 by decide) (Nat.pow_le_pow_right (by decide) (by decide)))
@[simp] def cOverOf : Ct := fun ds F => ∃ (pts : List Pt) (n : Nat) (box : Box), ds = [ePts pts, eBox box] ∧ PtsOk n pts ∧ BoxSm box ∧ F (eQ (overB pts box))
theorem ok_over_of (d : Def K mg "over_of" "over_of" sOverOf ["points", "box"]) (B : Blt mg) (c_less : Cal P w K mg base "less" 3 ["one", "other"] cLess) (c_fraction : Cal P w K mg base "fraction" 2 ["top", "bottom"] cFraction) (c_size_of : Cal P w K mg base "size_of" 5 ["box"] cSizeOf) (c_inside : Cal P w K mg base "inside" 5 ["points", "box", "way"] cInside) : Cal P w K mg base "over_of" 6 ["points", "box"] cOverOf := by
  refine cal_of d scOverOf ?len ⟨_, fun f cdv A outer s H E hr => (dss_one (ds_ret (de_fn c_less hr (df_cons (de_fn c_fraction hr (df_cons (de_fn c_inside hr (df_cons (de_var 0) (df_cons (de_var 1) (df_cons de_str df_nil)))) (df_cons (de_callB call_len_seq l_len B.len PySem.boot_len (da_cons (de_var 0) da_nil)) df_nil))) (df_cons (de_fn c_size_of hr (df_cons (de_var 1) df_nil)) df_nil))))), ?c⟩
  case len =>
    intro ds G h
    simp only [cOverOf] at h
    repeat obtain ⟨_, h⟩ := h
    simp [*]
  case c =>
    intro ds G h0
    obtain ⟨pts, n, box, rfl, hp, ⟨hb, hl⟩, h⟩ := h0
    have f1 := sm_frac (cntB_le pts true box) hp.2.1 hp.2.2
    have g1 := sm_bsize hb hl
    have s1 := sm_sz f1
    have s2 := sm_sz g1
    have b2 := pow_big hp.2.2
    have b3 := pow_big (Nat.le_trans (cntB_le pts true box) hp.2.2)
    have b4 : 0 < pts.length := by have := hp.2.1; omega
    refine ⟨_, rfl, _, rfl, pts, n, box, true, rfl, hp, hb, hl, ?_⟩
    simp [ePts, b4, b2, b3, s1, s2]
    exact ⟨box, rfl, hb, hl, s2, h⟩
abbrev sLackOf : Stmt := topS 55
theorem scLackOf : FnScope ["points", "box"] ["points", "box"] (defScope sLackOf) := ⟨rfl, rfl, rfl, by decide +kernel, rfl, by decide +kernel, by decide +kernel⟩
@[simp] def cLackOf : Ct := fun ds F => ∃ (pts : List Pt) (n : Nat) (box : Box), ds = [ePts pts, eBox box] ∧ PtsOk n pts ∧ BoxSm box ∧ F (eQ (lackB pts box))
theorem ok_lack_of (d : Def K mg "lack_of" "lack_of" sLackOf ["points", "box"]) (B : Blt mg) (c_less : Cal P w K mg base "less" 3 ["one", "other"] cLess) (c_size_of : Cal P w K mg base "size_of" 5 ["box"] cSizeOf) (c_fraction : Cal P w K mg base "fraction" 2 ["top", "bottom"] cFraction) (c_inside : Cal P w K mg base "inside" 5 ["points", "box", "way"] cInside) : Cal P w K mg base "lack_of" 6 ["points", "box"] cLackOf := by
  refine cal_of d scLackOf ?len ⟨_, fun f cdv A outer s H E hr => (dss_one (ds_ret (de_fn c_less hr (df_cons (de_fn c_size_of hr (df_cons (de_var 1) df_nil)) (df_cons (de_fn c_fraction hr (df_cons (de_fn c_inside hr (df_cons (de_var 0) (df_cons (de_var 1) (df_cons de_str df_nil)))) (df_cons (de_callB call_len_seq l_len B.len PySem.boot_len (da_cons (de_var 0) da_nil)) df_nil))) df_nil))))), ?c⟩
  case len =>
    intro ds G h
    simp only [cLackOf] at h
    repeat obtain ⟨_, h⟩ := h
    simp [*]
  case c =>
    intro ds G h0
    obtain ⟨pts, n, box, rfl, hp, ⟨hb, hl⟩, h⟩ := h0
    have f1 := sm_frac (cntB_le pts false box) hp.2.1 hp.2.2
    have g1 := sm_bsize hb hl
    have s1 := sm_sz f1
    have s2 := sm_sz g1
    have b2 := pow_big hp.2.2
    have b3 := pow_big (Nat.le_trans (cntB_le pts false box) hp.2.2)
    have b4 : 0 < pts.length := by have := hp.2.1; omega
    refine ⟨_, rfl, box, rfl, hb, hl, _, rfl, _, rfl, pts, n, box, false, rfl, hp, hb, hl, ?_⟩
    simp [ePts, b4, b2, b3, s1, s2]
    exact h
abbrev sMissesOf : Stmt := topS 64
theorem scMissesOf : FnScope ["points", "box"] ["points", "box"] (defScope sMissesOf) := ⟨rfl, rfl, rfl, by decide +kernel, rfl, by decide +kernel, by decide +kernel⟩
@[simp] def cMisses : Ct := fun ds F => ∃ (pts : List Pt) (n : Nat) (box : Box), ds = [ePts pts, eBox box] ∧ PtsOk n pts ∧ BoxSm box ∧ F (.lst [.tup [.str "over", eQ (overB pts box)], .tup [.str "lack", eQ (lackB pts box)]])
theorem ok_misses_of (d : Def K mg "misses_of" "misses_of" sMissesOf ["points", "box"]) (c_over_of : Cal P w K mg base "over_of" 6 ["points", "box"] cOverOf) (c_lack_of : Cal P w K mg base "lack_of" 6 ["points", "box"] cLackOf) : Cal P w K mg base "misses_of" 7 ["points", "box"] cMisses := by
  refine cal_of d scMissesOf ?len ⟨_, fun f cdv A outer s H E hr => (dss_one (ds_ret (de_lst (da_cons (de_tup (da_cons de_str (da_cons (de_fn c_over_of hr (df_cons (de_var 0) (df_cons (de_var 1) df_nil))) da_nil))) (da_cons (de_tup (da_cons de_str (da_cons (de_fn c_lack_of hr (df_cons (de_var 0) (df_cons (de_var 1) df_nil))) da_nil))) da_nil))))), ?c⟩
  case len =>
    intro ds G h
    simp only [cMisses] at h
    repeat obtain ⟨_, h⟩ := h
    simp [*]
  case c =>
    intro ds G h0
    obtain ⟨pts, n, box, rfl, hp, hb, h⟩ := h0
    simp
    exact ⟨pts, rfl, n, box, rfl, hp, hb, pts, rfl, n, box, rfl, hp, hb, h⟩
end
end EP

set_option Elab.async false
set_option linter.all false
set_option maxRecDepth 100000
set_option maxHeartbeats 4000000
namespace EP
open PySem PySem.Spec PyProof.Rows L2 DL
def CoOk (q : Rat) : Prop := 0 ≤ q ∧ q < 1 ∧ Sm 50 q
section
variable {P : Program} {w : World} {K : PySem.W.Frag} {mg : Str → Option Value} {base : Heap}
abbrev sInSize : Stmt := topS 16
theorem scInSize : FnScope ["some", "found", "one", "at"] ["some"] (defScope sInSize) := ⟨rfl, rfl, rfl, by decide +kernel, rfl, by decide +kernel, by decide +kernel⟩
@[simp] def cInSize : Ct := fun ds F => ∃ (xs : List Rat), ds = [.lst (xs.map eQ)] ∧ (∀ x ∈ xs, Sm 50 x) ∧ xs.length ≤ 8 ∧ ∀ qs : List Rat, (∀ q ∈ qs, q ∈ xs) → qs.length ≤ xs.length → F (.tup (qs.map eQ))
theorem ok_in_size (d : Def K mg "in_size" "in_size" sInSize ["some"]) (B : Blt mg) (c_is_below : Cal P w K mg base "is_below" 1 ["one", "other"] cBelow) : Cal P w K mg base "in_size" 2 ["some"] cInSize := by
  refine cal_of d scInSize ?len ⟨_, fun f cdv A outer s H E hr => (dss_cons (ds_own 1 scInSize.nd da_nil)
      (dss_cons (ds_for PassesOwn.never rfl (di_list (de_var 0)) (dg_name 2 scInSize.nd)
      (dss_cons (ds_set 3 scInSize.nd de_int)
      (dss_cons (ds_while PassesOwn.never (DW.dt (dw_and (dt_cmp op_lt l_B0 (de_var 3) (de_lenO 1 B.len)) (dw_and1 (dt_val (de_fn c_is_below hr (df_cons (de_ixO 1 (de_var 3)) (df_cons (de_var 2) df_nil)))))))
      (dss_one (ds_set 3 scInSize.nd (de_op op_add l_I0 (de_var 3) de_int))))
      (dss_one (ds_if (DW.dt (dw_or (dt_cmp op_eq l_eq (de_var 3) (de_lenO 1 B.len)) (dw_or1 (dt_cmp (op_neD (hr.units)) l_neD (de_ixO 1 (de_var 3)) (de_var 2)))))
      (dss_one (ds_insert 1 (da_cons (de_var 3) (da_cons (de_var 2) da_nil))))
      dss_nil)))))
      (dss_freeze 1 (dss_one (ds_ret (de_callTy call_tuple_of l_tupOf B.tuple boot_tuple_ (da_cons (de_var 1) da_nil))))))), ?c⟩
  case len =>
    intro ds G h
    simp only [cInSize] at h
    repeat obtain ⟨_, h⟩ := h
    simp [*]
  case c =>
    intro ds G h0
    obtain ⟨xs, rfl, hx, hl, h⟩ := h0
    refine ⟨_, rfl, _, rfl, ?_⟩
    refine forD_inv eQ (fun cs ρ => ∃ (pre qs : List Rat) (o2 o3 : Option S), pre ++ cs = xs ∧ (∀ q ∈ qs, q ∈ xs) ∧ qs.length ≤ pre.length ∧ ρ = [some (.val (.lst (xs.map eQ))), some (.own (qs.map eQ)), o2, o3]) ?_ ?_ xs _ ⟨[], [], none, none, rfl, by simp, by simp, rfl⟩
    · rintro c cs ρ N hN ⟨pre, qs, o2, o3, e, hq, hql, rfl⟩
      have hm : c ∈ xs := by rw [← e]; simp
      have hlen : pre.length + cs.length + 1 ≤ 8 := by
        have := congrArg List.length e
        simp at this
        omega
      have hc := sm_sz (hx c hm)
      refine ⟨fun m ρ => ∃ at_ : Nat, at_ ≤ qs.length ∧ m = qs.length - at_ ∧ ρ = [some (.val (.lst (xs.map eQ))), some (.own (qs.map eQ)), some (.val (eQ c)), some (.val (.int at_))], ⟨_, 0, by omega, rfl, rfl⟩, ?_⟩
      rintro m ρ ⟨at_, ha, rfl, rfl⟩
      have hend : ∀ b : Bool, (b = true → N [some (.val (.lst (xs.map eQ))), some (.own ((qs.map eQ).take at_ ++ [eQ c] ++ (qs.map eQ).drop at_)), some (.val (eQ c)), some (.val (.int at_))]) := fun b _ => by
        refine hN _ ⟨pre ++ [c], qs.take at_ ++ [c] ++ qs.drop at_, some (.val (eQ c)), some (.val (.int at_)), by simpa using e, ?_, ?_, ?_⟩
        · intro q h1
          simp only [List.mem_append, List.mem_singleton] at h1
          rcases h1 with (h1 | h1) | h1
          · exact hq q (List.mem_of_mem_take h1)
          · rw [h1]; exact hm
          · exact hq q (List.mem_of_mem_drop h1)
        · simp; omega
        · simp
      have hskip : N [some (.val (.lst (xs.map eQ))), some (.own (qs.map eQ)), some (.val (eQ c)), some (.val (.int at_))] := hN _ ⟨pre ++ [c], qs, some (.val (eQ c)), some (.val (.int at_)), by simpa using e, hq, by simp; omega, rfl⟩
      by_cases c1 : at_ < qs.length
      · have hg : (qs.map eQ)[at_]? = some (eQ qs[at_]) := by simp [c1]
        have hz := sm_sz (hx _ (hq qs[at_] (by simp)))
        have e1 : ¬ ((at_ : Int) = qs.length) := by omega
        by_cases c2 : qs[at_] < c
        · simp [c1, hg, hc, hz, c2]
          exact ⟨_, by omega, at_ + 1, by omega, rfl, by simp⟩
        · by_cases c3 : qs[at_] = c
          · simp [c1, hg, hc, hz, c2, e1, c3]
            exact hskip
          · simp [c1, hg, hc, hz, c2, e1, c3]
            exact ⟨by omega, by omega, by simpa using hend true rfl⟩
      · have e1 : (at_ : Int) = qs.length := by omega
        have e2 : at_ = qs.length := by omega
        subst e2
        simp [hc]
        exact ⟨by omega, by omega, by simpa using hend true rfl⟩
    · rintro ρ ⟨pre, qs, o2, o3, e, hq, hql, rfl⟩
      rw [List.append_nil] at e
      subst e
      simp
      exact h qs hq hql
abbrev sNumbersAt : Stmt := topS 29
theorem scNumbersAt : FnScope ["points", "side", "point"] ["points", "side"] (defScope sNumbersAt) := ⟨rfl, rfl, rfl, by decide +kernel, rfl, by decide +kernel, by decide +kernel⟩
@[simp] def cNumsAt : Ct := fun ds F => ∃ (pts : List Pt) (n s : Nat), ds = [ePts pts, .int (s : Int)] ∧ PtsOk n pts ∧ s < n ∧ ∀ qs : List Rat, (∀ q ∈ qs, CoOk q) → qs.length ≤ 8 → F (.tup (qs.map eQ))
theorem co_of {n s : Nat} {p : Pt} (h : PtOk n p) (hs : s < n) : p[s]? = some ((p[s]?).getD 0) ∧ CoOk ((p[s]?).getD 0) := by
  have h1 : s < p.length := by rw [h.1]; exact hs
  have e : p[s]? = some p[s] := List.getElem?_eq_getElem h1
  rw [e]
  exact ⟨rfl, h.2 _ (List.getElem_mem h1)⟩
theorem ok_numbers_at (d : Def K mg "numbers_at" "numbers_at" sNumbersAt ["points", "side"]) (c_in_size : Cal P w K mg base "in_size" 2 ["some"] cInSize) : Cal P w K mg base "numbers_at" 3 ["points", "side"] cNumsAt := by
  refine cal_of d scNumbersAt ?len ⟨_, fun f cdv A outer s H E hr => (dss_one (ds_ret (de_fn c_in_size hr (df_cons (de_comp [("point", 2)] rfl scNumbersAt.nd (di_tup (de_var 0)) (fun _ _ _ _ _ => (dg_name 2 scNumbersAt.nd)) (fun _ _ _ _ _ => dts_nil) (fun _ _ _ _ _ => (de_ix ix_any l_ix (de_var 2) (de_var 1))) (blk_ok (N := ["points", "side", "point"]) (sc := defScope sNumbersAt) rfl rfl (by decide +kernel))) df_nil)))), ?c⟩
  case len =>
    intro ds G h
    simp only [cNumsAt] at h
    repeat obtain ⟨_, h⟩ := h
    simp [*]
  case c =>
    intro ds G h0
    obtain ⟨pts, n, s, rfl, hp, hs, h⟩ := h0
    refine ⟨_, rfl, _, rfl, by rw [List.length_map]; have := hp.2.2; omega, compD_map ePt (fun p => eQ ((p[s]?).getD 0)) pts [] ?_ ?_⟩
    · intro p hpm F G hf
      have := (co_of (hp.1 p hpm) hs).1
      simp [ePt]
      rw [this]
      exact ⟨_, by simp, hf⟩
    · refine ⟨pts.map fun p => (p[s]?).getD 0, by rw [List.nil_append, List.map_map]; rfl, ?_, by rw [List.length_map]; exact hp.2.2, ?_⟩
      · intro x hx
        obtain ⟨p, hpm, rfl⟩ := List.mem_map.mp hx
        exact (co_of (hp.1 p hpm) hs).2.2.2
      · intro qs hq hl
        refine h qs (fun q hqm => ?_) (by rw [List.length_map] at hl; have := hp.2.2; omega)
        obtain ⟨p, hpm, rfl⟩ := List.mem_map.mp (hq q hqm)
        exact (co_of (hp.1 p hpm) hs).2
abbrev sManyAtSide : Stmt := topS 61
theorem scManyAtSide : FnScope ["u", "family", "many"] ["u", "family"] (defScope sManyAtSide) := ⟨rfl, rfl, rfl, by decide +kernel, rfl, by decide +kernel, by decide +kernel⟩
@[simp] def cManyAt : Ct := fun ds F => ∃ (u : Nat) (f : Fam), ds = [.int (u : Int), eF f] ∧ u ≤ 8 ∧ ∀ m : Int, 0 ≤ m → m ≤ (if f = .corner then 9 else 110) → F (.int m)
theorem ok_many_at_side (d : Def K mg "many_at_side" "many_at_side" sManyAtSide ["u", "family"]) : Cal P w K mg base "many_at_side" 1 ["u", "family"] cManyAt := by
  refine cal_of d scManyAtSide ?len ⟨_, fun f cdv A outer s H E hr => (dss_cons (ds_if (dt_cmp op_eq l_eq (de_var 1) de_str)
      (dss_one (ds_ret (de_op op_add l_I0 (de_var 0) de_int)))
      dss_nil)
      (dss_cons (ds_set 2 scManyAtSide.nd (de_op op_add l_I0 (de_op op_fdivW l_I (de_op op_mulW l_I (de_op op_add l_I0 (de_var 0) de_int) (de_op op_add l_I0 (de_var 0) de_int)) de_int) (de_var 0)))
      (dss_one (ds_ret (de_if (dt_cmp op_eq l_eq (de_var 1) de_str) (de_op op_mulW l_I de_int (de_var 2)) (de_var 2)))))), ?c⟩
  case len =>
    intro ds G h
    simp only [cManyAt] at h
    repeat obtain ⟨_, h⟩ := h
    simp [*]
  case c =>
    intro ds G h0
    obtain ⟨u, f, rfl, hu, h⟩ := h0
    have : u = 0 ∨ u = 1 ∨ u = 2 ∨ u = 3 ∨ u = 4 ∨ u = 5 ∨ u = 6 ∨ u = 7 ∨ u = 8 := by omega
    have hM : ∀ i j : Int, i.natAbs < 100000 → j.natAbs < 100000 → CMulW i j := fun i j a b => mul_ok (n := 17) (m := 17) (by omega) (by omega) (by decide) (by decide) (by decide)
    have hD : ∀ i : Int, CDivW i 2 := fun i => ⟨by decide, by decide⟩
    rcases this with rfl | rfl | rfl | rfl | rfl | rfl | rfl | rfl | rfl <;> cases f <;> simp [eF, hM, hD] at h ⊢ <;> exact h _ (by decide) (by decide)
abbrev sManyLooks : Stmt := topS 62
theorem scManyLooks : FnScope ["points", "family", "many", "side"] ["points", "family"] (defScope sManyLooks) := ⟨rfl, rfl, rfl, by decide +kernel, rfl, by decide +kernel, by decide +kernel⟩
@[simp] def cManyLooks : Ct := fun ds F => ∃ (pts : List Pt) (n : Nat) (f : Fam), ds = [ePts pts, eF f] ∧ PtsOk n pts ∧ (n = 1 ∨ n = 2 ∧ f = .corner) ∧ ∀ m : Int, 0 ≤ m → m ≤ 3000 → F (.int m)
theorem ok_many_looks (d : Def K mg "many_looks" "many_looks" sManyLooks ["points", "family"]) (B : Blt mg) (c_sides_of : Cal P w K mg base "sides_of" 1 ["points"] cSidesOf) (c_many_at_side : Cal P w K mg base "many_at_side" 1 ["u", "family"] cManyAt) (c_numbers_at : Cal P w K mg base "numbers_at" 3 ["points", "side"] cNumsAt) : Cal P w K mg base "many_looks" 4 ["points", "family"] cManyLooks := by
  refine cal_of d scManyLooks ?len ⟨_, fun f cdv A outer s H E hr => (dss_cons (ds_set 2 scManyLooks.nd de_int)
      (dss_cons (ds_for PassesOwn.never rfl (di_range B.range (de_fn c_sides_of hr (df_cons (de_var 0) df_nil))) (dg_name 3 scManyLooks.nd)
      (dss_one (ds_set 2 scManyLooks.nd (de_op op_mulW l_I (de_var 2) (de_fn c_many_at_side hr (df_cons (de_callB call_len_seq l_len B.len PySem.boot_len (da_cons (de_fn c_numbers_at hr (df_cons (de_var 0) (df_cons (de_var 3) df_nil))) da_nil)) (df_cons (de_var 1) df_nil)))))))
      (dss_one (ds_ret (de_var 2))))), ?c⟩
  case len =>
    intro ds G h
    simp only [cManyLooks] at h
    repeat obtain ⟨_, h⟩ := h
    simp [*]
  case c =>
    intro ds G h0
    obtain ⟨pts, n, f, rfl, hp, hn, h⟩ := h0
    have hM : ∀ i j : Int, i.natAbs < 100000 → j.natAbs < 100000 → CMulW i j := fun i j a b => mul_ok (n := 17) (m := 17) (by omega) (by omega) (by decide) (by decide) (by decide)
    have hc : ∀ qs : List Rat, True := fun _ => trivial
    rcases hn with rfl | ⟨rfl, rfl⟩
    · simp
      refine ⟨1, pts, rfl, hp, by decide, ?_⟩
      simp [rangeD, List.range, List.range.loop, ForD]
      refine ⟨pts, rfl, 1, 0, rfl, hp, by decide, fun qs hq hl => ?_⟩
      refine ⟨qs.length, rfl, hl, fun m h0 h1 => ?_⟩
      have : m ≤ 110 := by split at h1 <;> omega
      exact ⟨hM _ _ (by omega) (by omega), h m h0 (by omega)⟩
    · simp
      refine ⟨2, pts, rfl, hp, by decide, ?_⟩
      simp [rangeD, List.range, List.range.loop, ForD]
      refine ⟨pts, rfl, 2, 0, rfl, hp, by decide, fun qs hq hl => ?_⟩
      refine ⟨qs.length, rfl, hl, fun m h0 h1 => ?_⟩
      refine ⟨hM _ _ (by omega) (by omega), ?_⟩
      refine ⟨pts, rfl, 2, 1, rfl, hp, by decide, fun qs hq hl => ?_⟩
      refine ⟨qs.length, rfl, hl, fun m2 h02 h12 => ?_⟩
      refine ⟨hM _ _ (by omega) (by omega), ?_⟩
      have : m * m2 ≤ 9 * 9 := Int.mul_le_mul h1 h12 h02 (by decide)
      exact h _ (Int.mul_nonneg h0 h02) (by omega)
end
end EP

set_option Elab.async false
set_option linter.all false
set_option maxRecDepth 100000
set_option maxHeartbeats 4000000
namespace EP
open PySem PySem.Spec PyProof.Rows L2 DL
def EdOk (q : Rat) : Prop := -1 ≤ q ∧ q ≤ 1 ∧ Sm 50 q
theorem ed_co {q : Rat} (h : CoOk q) : EdOk q := ⟨Rat.le_trans (by decide) h.1, Rat.le_of_lt h.2.1, h.2.2⟩
theorem ed_one : EdOk 1 := ⟨by decide, by decide, Sm.mono sm_one (by decide)⟩
theorem ed_neg : EdOk (-1) := ⟨by decide, by decide, Sm.mono sm_neg (by decide)⟩
theorem ed_sz {q : Rat} (h : EdOk q) : Sz q := sm_sz h.2.2
theorem ifT {A B : Prop} (h : A) : if true = true then A else B := h
theorem ifF {A B : Prop} (h : B) : if false = true then A else B := h
section
variable {P : Program} {w : World} {K : PySem.W.Frag} {mg : Str → Option Value} {base : Heap}
abbrev sSideLooks : Stmt := topS 60
theorem scSideLooks : FnScope ["numbers", "family", "lasts", "t", "firsts", "found", "a", "b"] ["numbers", "family"] (defScope sSideLooks) := ⟨rfl, rfl, rfl, by decide +kernel, rfl, by decide +kernel, by decide +kernel⟩
@[simp] def cSideLooks : Ct := fun ds F => ∃ (qs : List Rat) (f : Fam), ds = [.tup (qs.map eQ), eF f] ∧ (∀ q ∈ qs, CoOk q) ∧ qs.length ≤ 8 ∧ ∀ bs : List BS, bs ≠ [] → bs.length ≤ 200 → (∀ b ∈ bs, BSok f b) → F (.lst (bs.map eBS))
theorem ok_side_looks (d : Def K mg "side_looks" "side_looks" sSideLooks ["numbers", "family"]) (k_ONE_looks : Con K mg "ONE_looks" (eQ 1)) (k_BELOW : Con K mg "BELOW" (eQ (-1))) (c_is_below : Cal P w K mg base "is_below" 1 ["one", "other"] cBelow) : Cal P w K mg base "side_looks" 2 ["numbers", "family"] cSideLooks := by
  refine cal_of d scSideLooks ?len ⟨_, fun f cdv A outer s H E hr => (dss_cons (ds_set 2 scSideLooks.nd (de_op op_catA l_catT (de_var 0) (de_tup (da_cons (de_con k_ONE_looks) da_nil))))
      (dss_cons (ds_if (dt_cmp op_eq l_eq (de_var 1) de_str)
      (dss_one (ds_ret (de_comp [("t", 3)] rfl scSideLooks.nd (di_tup (de_var 2)) (fun _ _ _ _ _ => (dg_name 3 scSideLooks.nd)) (fun _ _ _ _ _ => dts_nil) (fun _ _ _ _ _ => (de_tup (da_cons de_str (da_cons (de_var 3) da_nil)))) (blk_ok (N := ["numbers", "family", "lasts", "t", "firsts", "found", "a", "b"]) (sc := defScope sSideLooks) rfl rfl (by decide +kernel)))))
      dss_nil)
      (dss_cons (ds_set 4 scSideLooks.nd (de_op op_catA l_catT (de_tup (da_cons (de_con k_BELOW) da_nil)) (de_var 0)))
      (dss_cons (ds_own 5 scSideLooks.nd da_nil)
      (dss_cons (ds_for PassesOwn.never rfl (di_tup (de_var 4)) (dg_name 6 scSideLooks.nd)
      (dss_one (ds_extend 5 (de_comp [("b", 7)] rfl scSideLooks.nd (di_tup (de_var 2)) (fun _ _ _ _ _ => (dg_name 7 scSideLooks.nd)) (fun _ _ _ _ _ => (dts_one (dt_not (dt_val (de_fn c_is_below hr (df_cons (de_var 7) (df_cons (de_var 6) df_nil))))))) (fun _ _ _ _ _ => (de_tup (da_cons de_str (da_cons (de_var 6) (da_cons (de_var 7) da_nil))))) (blk_ok (N := ["numbers", "family", "lasts", "t", "firsts", "found", "a", "b"]) (sc := defScope sSideLooks) rfl rfl (by decide +kernel))))))
      (dss_cons (ds_if (dt_cmp op_eq l_eq (de_var 1) de_str)
      (dss_one (ds_for PassesOwn.never rfl (di_tup (de_var 2)) (dg_name 6 scSideLooks.nd)
      (dss_one (ds_extend 5 (de_comp [("b", 7)] rfl scSideLooks.nd (di_tup (de_var 4)) (fun _ _ _ _ _ => (dg_name 7 scSideLooks.nd)) (fun _ _ _ _ _ => (dts_one (dt_not (dt_val (de_fn c_is_below hr (df_cons (de_var 6) (df_cons (de_var 7) df_nil))))))) (fun _ _ _ _ _ => (de_tup (da_cons de_str (da_cons (de_var 6) (da_cons (de_var 7) da_nil))))) (blk_ok (N := ["numbers", "family", "lasts", "t", "firsts", "found", "a", "b"]) (sc := defScope sSideLooks) rfl rfl (by decide +kernel)))))))
      dss_nil)
      (dss_freeze 5 (dss_one (ds_ret (de_var 5)))))))))), ?c⟩
  case len =>
    intro ds G h
    simp only [cSideLooks] at h
    repeat obtain ⟨_, h⟩ := h
    simp [*]
  case c =>
    intro ds G h0
    obtain ⟨qs, f, rfl, hq, hl, h⟩ := h0
    have eL : qs.map eQ ++ [eQ 1] = (qs ++ [1]).map eQ := by simp
    have eFi : eQ (-1) :: qs.map eQ = ((-1) :: qs).map eQ := by simp
    have hL : ∀ x ∈ qs ++ [1], EdOk x := fun x hx => by
      rcases List.mem_append.mp hx with hx | hx
      · exact ed_co (hq x hx)
      · rw [List.mem_singleton.mp hx]; exact ed_one
    have hF : ∀ x ∈ (-1) :: qs, EdOk x ∧ x < 1 := fun x hx => by
      rcases List.mem_cons.mp hx with hx | hx
      · rw [hx]; exact ⟨ed_neg, by decide⟩
      · exact ⟨ed_co (hq x hx), (hq x hx).2.1⟩
    have hLl : (qs ++ [1]).length ≤ 9 := by simp; omega
    have hFl : ((-1 : Rat) :: qs).length ≤ 9 := by simp; omega
    simp only [startD, List.map_cons, List.map_nil, argS_eF, argS_tup, List.cons_append, List.nil_append]
    refine ⟨_, rfl, ?_⟩
    refine ⟨_, _, rfl, rfl, by simp; omega, ?_⟩
    rw [eL]
    refine ⟨_, rfl, ?_⟩
    have hcase : f = .corner ∨ f = .inner ∨ f = .round := by cases f <;> simp
    rcases hcase with rfl | hcase
    · have hE : eqS (eF .corner) (.str "corner") = some true := by simp [eF]
      refine ⟨_, hE, _, rfl, ?_⟩
      refine ifT ?_
      refine ⟨_, rfl, _, rfl, by rw [List.length_map]; omega, compD_map eQ (fun t => eBS ⟨.to, t, t⟩) _ _ ?_ ?_⟩
      · intro t ht F G hf
        simp
        exact hf
      · rw [List.nil_append, show (fun t => eBS ⟨Wd.to, t, t⟩) = eBS ∘ (fun t => ⟨.to, t, t⟩) from rfl, ← List.map_map]
        refine h _ (by simp) (by rw [List.length_map]; omega) fun b hb => ?_
        obtain ⟨t, ht, rfl⟩ := List.mem_map.mp hb
        have := hL t ht
        exact ⟨fun _ => rfl, (fun e => nomatch e), (fun e => nomatch e), this.1, this.2.1, this.1, this.2.1, this.2.2, this.2.2⟩
    · have hE : eqS (eF f) (.str "corner") = some false := by rcases hcase with rfl | rfl <;> simp [eF]
      refine ⟨_, hE, _, rfl, ?_⟩
      refine ifF ?_
      refine ⟨_, rfl, _, _, rfl, rfl, by simp; omega, ?_⟩
      rw [show [eQ (-1)] ++ List.map eQ qs = ((-1) :: qs).map eQ from rfl]
      refine ⟨_, rfl, _, rfl, ?_⟩
      refine forD_inv eQ (fun rest ρ => ∃ (bs : List BS) (o6 o7 : Option S), (∀ x ∈ rest, EdOk x ∧ x < 1) ∧ bs.length + 9 * rest.length ≤ 81 ∧ (∀ b ∈ bs, BSok f b) ∧ (bs ≠ [] ∨ rest ≠ []) ∧ ρ = [some (.val (.tup (qs.map eQ))), some (.val (eF f)), some (.val (.tup ((qs ++ [1]).map eQ))), none, some (.val (.tup (((-1) :: qs).map eQ))), some (.own (bs.map eBS)), o6, o7]) ?_ ?_ _ _ ⟨[], none, none, hF, by simp; omega, by simp, .inr (by simp), by simp⟩
      · rintro a rest ρ N hN ⟨bs, o6, o7, hr, hbl, hb, hne, rfl⟩
        have ha := hr a (by simp)
        refine ⟨_, rfl, _, rfl, _, rfl, by rw [List.length_map]; omega, compD_filter eQ (fun b => !decide (b < a)) (fun b => eBS ⟨.frm, a, b⟩) _ _ ?_ ?_⟩
        · intro b hb F G hf
          simp [ed_sz (hL b hb), ed_sz ha.1] at hf ⊢
          by_cases c : b < a <;> simp [c] at hf ⊢ <;> exact hf
        · rw [List.nil_append, show (fun b => eBS ⟨Wd.frm, a, b⟩) = eBS ∘ (fun b => ⟨.frm, a, b⟩) from rfl, ← List.map_map]
          have hfl : ((qs ++ [1]).filter (fun b => !decide (b < a))).length ≤ 9 := Nat.le_trans (List.length_filter_le _ _) hLl
          have hbs : bs.length ≤ 81 := by omega
          refine ⟨_, rfl, by simp only [List.length_map]; omega, ?_⟩
          rw [← List.map_append]
          refine hN _ ⟨_, some (.val (eQ a)), o7, fun x hx => hr x (by simp [hx]), ?_, ?_, .inl ?_, rfl⟩
          · simp only [List.length_append, List.length_map, List.length_cons] at hbl ⊢
            omega
          · intro b hbm
            rcases List.mem_append.mp hbm with hbm | hbm
            · exact hb b hbm
            · obtain ⟨t, ht, rfl⟩ := List.mem_map.mp hbm
              have h1 := hL t (List.mem_filter.mp ht).1
              have h2 := ha.1
              exact ⟨fun e => (by subst e; simp at hcase), fun _ => rfl, fun _ => .inl rfl, h2.1, h2.2.1, h1.1, h1.2.1, h2.2.2, h1.2.2⟩
          · intro e
            have e := List.append_eq_nil_iff.mp e
            have : (1 : Rat) ∈ (qs ++ [1]).filter (fun b => !decide (b < a)) := by
              refine List.mem_filter.mpr ⟨by simp, ?_⟩
              have : ¬ (1 < a) := Rat.not_lt.mpr (Rat.le_of_lt ha.2)
              simp [this]
            rw [List.map_eq_nil_iff.mp e.2] at this
            cases this
      · rintro ρ ⟨bs, o6, o7, hr, hbl, hb, hne, rfl⟩
        have hne : bs ≠ [] := hne.resolve_right (by simp)
        rcases hcase with rfl | rfl
        · simp [eF]
          exact h bs hne (by omega) hb
        · have hE2 : eqS (eF .round) (.str "round") = some true := by simp [eF]
          refine ⟨_, rfl, _, hE2, _, rfl, ?_⟩
          refine ifT ?_
          refine ⟨_, rfl, _, rfl, ?_⟩
          refine forD_inv eQ (fun rest ρ => ∃ (bs : List BS) (o6 o7 : Option S), (∀ x ∈ rest, EdOk x) ∧ bs.length + 9 * rest.length ≤ 162 ∧ (∀ b ∈ bs, BSok .round b) ∧ bs ≠ [] ∧ ρ = [some (.val (.tup (qs.map eQ))), some (.val (eF .round)), some (.val (.tup ((qs ++ [1]).map eQ))), none, some (.val (.tup (((-1) :: qs).map eQ))), some (.own (bs.map eBS)), o6, o7]) ?_ ?_ _ _ ⟨bs, o6, o7, hL, by simp only [List.length_append, List.length_cons, List.length_nil] at hbl hLl ⊢; omega, hb, hne, rfl⟩
          · rintro a rest ρ N hN ⟨bs, o6, o7, hr, hbl, hb, hne, rfl⟩
            have ha := hr a (by simp)
            refine ⟨_, rfl, _, rfl, _, rfl, by rw [List.length_map]; omega, compD_filter eQ (fun b => !decide (a < b)) (fun b => eBS ⟨.rnd, a, b⟩) _ _ ?_ ?_⟩
            · intro b hb F G hf
              simp [ed_sz (hF b hb).1, ed_sz ha] at hf ⊢
              by_cases c : a < b <;> simp [c] at hf ⊢ <;> exact hf
            · rw [List.nil_append, show (fun b => eBS ⟨Wd.rnd, a, b⟩) = eBS ∘ (fun b => ⟨.rnd, a, b⟩) from rfl, ← List.map_map]
              have hfl : (((-1) :: qs).filter (fun b => !decide (a < b))).length ≤ 9 := Nat.le_trans (List.length_filter_le _ _) hFl
              have hbs : bs.length ≤ 162 := by omega
              refine ⟨_, rfl, by simp only [List.length_map]; omega, ?_⟩
              rw [← List.map_append]
              refine hN _ ⟨_, some (.val (eQ a)), o7, fun x hx => hr x (by simp [hx]), ?_, ?_, ?_, rfl⟩
              · simp only [List.length_append, List.length_map, List.length_cons] at hbl ⊢
                omega
              · intro b hbm
                rcases List.mem_append.mp hbm with hbm | hbm
                · exact hb b hbm
                · obtain ⟨t, ht, rfl⟩ := List.mem_map.mp hbm
                  have h1 := (hF t (List.mem_filter.mp ht).1).1
                  exact ⟨(fun e => nomatch e), (fun e => nomatch e), fun _ => .inr rfl, ha.1, ha.2.1, h1.1, h1.2.1, ha.2.2, h1.2.2⟩
              · simp [hne]
          · rintro ρ ⟨bs, o6, o7, hr, hbl, hb, hne, rfl⟩
            simp
            exact h bs hne (by simp at hbl; omega) hb
theorem bs_sm {f : Fam} {b : BS} (h : BSok f b) : BSm b := ⟨h.2.2.2.2.2.2.2.1, h.2.2.2.2.2.2.2.2, fun e => by
  cases f
  · have := h.1 rfl
    rw [e] at this
    cases this
  · have := h.2.1 rfl
    rw [e] at this
    cases this
  · rcases h.2.2.1 rfl with h | h <;> rw [e] at h <;> cases h⟩
def BoxOk (f : Fam) (n : Nat) (box : Box) : Prop := box.length = n ∧ ∀ b ∈ box, BSok f b
theorem box_sm {f : Fam} {n : Nat} {box : Box} (h : BoxOk f n box) (hn : n ≤ 2) : BoxSm box := ⟨fun c hc => bs_sm (h.2 c hc), by rw [h.1]; exact hn⟩
abbrev sLooks : Stmt := topS 63
theorem scLooks : FnScope ["points", "family", "found", "side", "some", "longer", "box", "one"] ["points", "family"] (defScope sLooks) := ⟨rfl, rfl, rfl, by decide +kernel, rfl, by decide +kernel, by decide +kernel⟩
@[simp] def cLooks : Ct := fun ds F => ∃ (pts : List Pt) (n : Nat) (f : Fam), ds = [ePts pts, eF f] ∧ PtsOk n pts ∧ (n = 1 ∨ n = 2 ∧ f = .corner) ∧ ∀ bs : List Box, bs ≠ [] → (∀ b ∈ bs, BoxOk f n b) → F (.lst (bs.map eBox))
theorem ok_looks (d : Def K mg "looks" "looks" sLooks ["points", "family"]) (B : Blt mg) (k_MOST_LOOKS : Con K mg "MOST_LOOKS" (.int 3000)) (c_many_looks : Cal P w K mg base "many_looks" 4 ["points", "family"] cManyLooks) (c_sides_of : Cal P w K mg base "sides_of" 1 ["points"] cSidesOf) (c_side_looks : Cal P w K mg base "side_looks" 2 ["numbers", "family"] cSideLooks) (c_numbers_at : Cal P w K mg base "numbers_at" 3 ["points", "side"] cNumsAt) : Cal P w K mg base "looks" 5 ["points", "family"] cLooks := by
  refine cal_of d scLooks ?len ⟨_, fun f cdv A outer s H E hr => (dss_cons (ds_if (dt_cmp op_gt l_B0 (de_fn c_many_looks hr (df_cons (de_var 0) (df_cons (de_var 1) df_nil))) (de_con k_MOST_LOOKS))
      (dss_one ds_never)
      dss_nil)
      (dss_cons (ds_set 2 scLooks.nd (de_lst (da_cons (de_tup da_nil) da_nil)))
      (dss_cons (ds_for PassesOwn.never rfl (di_range B.range (de_fn c_sides_of hr (df_cons (de_var 0) df_nil))) (dg_name 3 scLooks.nd)
      (dss_cons (ds_set 4 scLooks.nd (de_fn c_side_looks hr (df_cons (de_fn c_numbers_at hr (df_cons (de_var 0) (df_cons (de_var 3) df_nil))) (df_cons (de_var 1) df_nil))))
      (dss_cons (ds_own 5 scLooks.nd da_nil)
      (dss_cons (ds_for PassesOwn.never rfl (di_list (de_var 2)) (dg_name 6 scLooks.nd)
      (dss_one (ds_extend 5 (de_comp [("one", 7)] rfl scLooks.nd (di_list (de_var 4)) (fun _ _ _ _ _ => (dg_name 7 scLooks.nd)) (fun _ _ _ _ _ => dts_nil) (fun _ _ _ _ _ => (de_op op_catA l_catT (de_var 6) (de_tup (da_cons (de_var 7) da_nil)))) (blk_ok (N := ["points", "family", "found", "side", "some", "longer", "box", "one"]) (sc := defScope sLooks) rfl rfl (by decide +kernel))))))
      (dss_freeze 5 (dss_one (ds_set 2 scLooks.nd (de_var 5))))))))
      (dss_one (ds_ret (de_var 2)))))), ?c⟩
  case len =>
    intro ds G h
    simp only [cLooks] at h
    repeat obtain ⟨_, h⟩ := h
    simp [*]
  case c =>
    intro ds G h0
    obtain ⟨pts, n, f, rfl, hp, hn, h⟩ := h0
    have hn2 : n ≤ 2 := by omega
    simp only [startD, List.map_cons, List.map_nil, argS_eF, argS_ePts, List.cons_append, List.nil_append]
    refine ⟨_, rfl, _, rfl, pts, n, f, rfl, hp, hn, fun m h0 h1 => ⟨_, _, rfl, rfl, false, congrArg D.bl (by simp; omega), ifF ?_⟩⟩
    refine ⟨_, rfl, n, pts, rfl, hp, _, rfl, by omega, by omega, ?_⟩
    show ForD _ _ _ ((List.range n).map fun (i : Nat) => D.int (i : Int)) _
    refine forD_inv (fun (i : Nat) => D.int (i : Int)) (fun rest ρ => ∃ (k : Nat) (bs : List Box) (o3 o4 o5 o6 o7 : Option S), rest = (List.range n).drop k ∧ k ≤ n ∧ bs ≠ [] ∧ bs.length ≤ 200 ^ k ∧ (∀ b ∈ bs, BoxOk f k b) ∧ ρ = [some (.val (ePts pts)), some (.val (eF f)), some (.val (.lst (bs.map eBox))), o3, o4, o5, o6, o7]) ?_ ?_ _ _ ⟨0, [[]], _, _, _, _, _, by simp, by omega, by simp, by simp, by simp [BoxOk], rfl⟩
    · rintro s rest ρ N hN ⟨k, bs, o3, o4, o5, o6, o7, hr, hk, hne, hbl, hb, rfl⟩
      have hkn : k < n := by
        rcases Nat.lt_or_ge k n with h | h
        · exact h
        · rw [List.drop_of_length_le (by simpa using h)] at hr
          cases hr
      have hks : s = k ∧ rest = (List.range n).drop (k + 1) := by
        rw [List.drop_eq_getElem_cons (by simpa using hkn)] at hr
        simp at hr
        exact hr
      obtain ⟨rfl, hrest⟩ := hks
      refine ⟨_, rfl, _, rfl, pts, n, s, rfl, hp, hkn, fun qs hq hql => ?_⟩
      refine ⟨_, rfl, qs, f, rfl, hq, hql, fun ss hsne hsl hss => ?_⟩
      refine ⟨_, rfl, _, rfl, ?_⟩
      refine forD_inv eBox (fun rest ρ => ∃ (out : List Box) (o6 o7 : Option S), (∀ b ∈ rest, BoxOk f s b) ∧ (out ≠ [] ∨ rest ≠ []) ∧ out.length + 200 * rest.length ≤ 200 ^ (s + 1) ∧ (∀ b ∈ out, BoxOk f (s + 1) b) ∧ ρ = [some (.val (ePts pts)), some (.val (eF f)), some (.val (.lst (bs.map eBox))), some (.val (.int s)), some (.val (.lst (ss.map eBS))), some (.own (out.map eBox)), o6, o7]) ?_ ?_ _ _ ⟨[], o6, o7, hb, .inr hne, by rw [Nat.pow_succ]; simp; omega, by simp, rfl⟩
      · rintro box rest2 ρ N2 hN2 ⟨out, o6, o7, hr2, hne2, hol, ho, rfl⟩
        have hbx := hr2 box (by simp)
        have hp2 : 200 ^ (s + 1) ≤ 200 ^ 2 := Nat.pow_le_pow_right (by decide) (by omega)
        refine ⟨_, rfl, _, rfl, _, rfl, by rw [List.length_map]; omega, compD_map eBS (fun b => eBox (box ++ [b])) _ _ ?_ ?_⟩
        · intro b hbm F G hf
          simp [eBox] at hf ⊢
          exact ⟨by have := hbx.1; omega, hf⟩
        · rw [List.nil_append, show (fun b => eBox (box ++ [b])) = eBox ∘ (fun b => box ++ [b]) from rfl, ← List.map_map]
          refine ⟨_, rfl, ?_, ?_⟩
          · simp only [List.length_map, List.length_cons] at hol ⊢
            omega
          · rw [← List.map_append]
            refine hN2 _ ⟨_, some (.val (eBox box)), o7, fun x hx => hr2 x (by simp [hx]), .inl ?_, ?_, ?_, rfl⟩
            · simp [hsne]
            · simp only [List.length_append, List.length_map, List.length_cons] at hol ⊢
              omega
            · intro b hbm
              rcases List.mem_append.mp hbm with hbm | hbm
              · exact ho b hbm
              · obtain ⟨t, ht, rfl⟩ := List.mem_map.mp hbm
                refine ⟨by simp [hbx.1], fun c hc => ?_⟩
                rcases List.mem_append.mp hc with hc | hc
                · exact hbx.2 c hc
                · rw [List.mem_singleton.mp hc]
                  exact hss t ht
      · rintro ρ ⟨out, o6, o7, hr2, hne2, hol, ho, rfl⟩
        refine ⟨_, rfl, _, rfl, ?_⟩
        exact hN _ ⟨s + 1, out, _, _, _, _, _, hrest, by omega, hne2.resolve_right (by simp), by simpa using hol, ho, rfl⟩
    · rintro ρ ⟨k, bs, o3, o4, o5, o6, o7, hr, hk, hne, hbl, hb, rfl⟩
      have hkn : k = n := by
        have := congrArg List.length hr
        simp at this
        omega
      subst hkn
      simp
      exact h bs hne hb
def MissOf (f : Fam) (n : Nat) (pts : List Pt) (u : Rat) : Prop := ∃ box, BoxOk f n box ∧ (u = overB pts box ∨ u = lackB pts box)
theorem sm_miss {f : Fam} {n m : Nat} {pts : List Pt} {u : Rat} (h : MissOf f n pts u) (hp : PtsOk m pts) (hn : n ≤ 2) : Sm 310 u := by
  obtain ⟨box, hb, h⟩ := h
  obtain ⟨hb, hl⟩ := box_sm hb hn
  have g1 := sm_bsize hb hl
  rcases h with rfl | rfl
  · exact Sm.mono (Sm.sub (sm_frac (cntB_le pts true box) hp.2.1 hp.2.2) g1) (by decide)
  · exact Sm.mono (Sm.sub g1 (sm_frac (cntB_le pts false box) hp.2.1 hp.2.2)) (by decide)
abbrev sWorst : Stmt := topS 65
theorem scWorst : FnScope ["points", "family", "found", "box", "way", "number"] ["points", "family"] (defScope sWorst) := ⟨rfl, rfl, rfl, by decide +kernel, rfl, by decide +kernel, by decide +kernel⟩
@[simp] def cWorst : Ct := fun ds F => ∃ (pts : List Pt) (n : Nat) (f : Fam), ds = [ePts pts, eF f] ∧ PtsOk n pts ∧ (n = 1 ∨ n = 2 ∧ f = .corner) ∧ ∀ (u : Rat) (a b : D), MissOf f n pts u → F (.tup [eQ u, a, b])
theorem ok_worst (d : Def K mg "worst" "worst" sWorst ["points", "family"]) (c_looks : Cal P w K mg base "looks" 5 ["points", "family"] cLooks) (c_misses_of : Cal P w K mg base "misses_of" 7 ["points", "box"] cMisses) (c_is_below : Cal P w K mg base "is_below" 1 ["one", "other"] cBelow) : Cal P w K mg base "worst" 8 ["points", "family"] cWorst := by
  refine cal_of d scWorst ?len ⟨_, fun f cdv A outer s H E hr => (dss_cons (ds_set 2 scWorst.nd de_non)
      (dss_cons (ds_for PassesOwn.never rfl (di_list (de_fn c_looks hr (df_cons (de_var 0) (df_cons (de_var 1) df_nil)))) (dg_name 3 scWorst.nd)
      (dss_one (ds_for PassesOwn.never rfl (di_list (de_fn c_misses_of hr (df_cons (de_var 0) (df_cons (de_var 3) df_nil)))) (dg_tup (n := 2) rfl (dgs_cons (dg_name 4 scWorst.nd) (dgs_cons (dg_name 5 scWorst.nd) dgs_nil)))
      (dss_one (ds_if (DW.dt (dw_or (dt_cmp op_isN l_isN (de_var 2) de_non) (dw_or1 (dt_val (de_fn c_is_below hr (df_cons (de_ix ix_any l_ix (de_var 2) de_int) (df_cons (de_var 5) df_nil)))))))
      (dss_one (ds_set 2 scWorst.nd (de_tup (da_cons (de_var 5) (da_cons (de_var 4) (da_cons (de_var 3) da_nil))))))
      dss_nil)))))
      (dss_one (ds_ret (de_var 2))))), ?c⟩
  case len =>
    intro ds G h
    simp only [cWorst] at h
    repeat obtain ⟨_, h⟩ := h
    simp [*]
  case c =>
    intro ds G h0
    obtain ⟨pts, n, f, rfl, hp, hn, h⟩ := h0
    have hn2 : n ≤ 2 := by omega
    simp only [startD, List.map_cons, List.map_nil, argS_eF, argS_ePts, List.cons_append, List.nil_append]
    refine ⟨_, rfl, _, rfl, pts, n, f, rfl, hp, hn, fun bs hne hb => ⟨_, rfl, ?_⟩⟩
    refine forD_inv eBox (fun rest ρ => ∃ (d2 : D) (o3 o4 o5 : Option S), (d2 = .non ∧ rest ≠ [] ∨ ∃ u a b, d2 = .tup [eQ u, a, b] ∧ MissOf f n pts u) ∧ (∀ b ∈ rest, BoxOk f n b) ∧ ρ = [some (.val (ePts pts)), some (.val (eF f)), some (.val d2), o3, o4, o5]) ?_ ?_ _ _ ⟨.non, _, _, _, .inl ⟨rfl, hne⟩, hb, rfl⟩
    · rintro box rest ρ N hN ⟨d2, o3, o4, o5, hd, hr, rfl⟩
      have hbx := hr box (by simp)
      have m1 : MissOf f n pts (overB pts box) := ⟨box, hbx, .inl rfl⟩
      have m2 : MissOf f n pts (lackB pts box) := ⟨box, hbx, .inr rfl⟩
      have z1 := sm_sz (sm_miss m1 hp hn2)
      have z2 := sm_sz (sm_miss m2 hp hn2)
      have hend : ∀ u a b o4 o5, MissOf f n pts u → N [some (.val (ePts pts)), some (.val (eF f)), some (.val (.tup [eQ u, a, b])), some (.val (eBox box)), o4, o5] := fun u a b o4 o5 hu => hN _ ⟨_, _, _, _, .inr ⟨u, a, b, rfl, hu⟩, fun x hx => hr x (by simp [hx]), rfl⟩
      simp
      refine ⟨pts, rfl, n, box, rfl, hp, box_sm hbx hn2, ?_⟩
      rcases hd with ⟨rfl, -⟩ | ⟨u, a, b, rfl, hu⟩
      · simp [ForD]
        simp [z1, z2]
        by_cases c : overB pts box < lackB pts box <;> simp [c] <;> exact hend _ _ _ _ _ (by first | exact m1 | exact m2)
      · have z3 := sm_sz (sm_miss hu hp hn2)
        simp [ForD, z3, z1]
        by_cases c : u < overB pts box <;> simp [c, z1, z2, z3]
        · by_cases c : overB pts box < lackB pts box <;> simp [c] <;> exact hend _ _ _ _ _ (by first | exact m1 | exact m2)
        · by_cases c : u < lackB pts box <;> simp [c] <;> exact hend _ _ _ _ _ (by first | exact m2 | exact hu)
    · rintro ρ ⟨d2, o3, o4, o5, hd, hr, rfl⟩
      rcases hd with ⟨rfl, hne⟩ | ⟨u, a, b, rfl, hu⟩
      · exact absurd rfl hne
      · simp
        exact h u a b hu
abbrev sUnevenness : Stmt := topS 66
theorem scUnevenness : FnScope ["points", "family"] ["points", "family"] (defScope sUnevenness) := ⟨rfl, rfl, rfl, by decide +kernel, rfl, by decide +kernel, by decide +kernel⟩
@[simp] def cUneven : Ct := fun ds F => ∃ (pts : List Pt) (n : Nat) (f : Fam), ds = [ePts pts, eF f] ∧ PtsOk n pts ∧ (n = 1 ∨ n = 2 ∧ f = .corner) ∧ ∀ (u : Rat), MissOf f n pts u → F (eQ u)
theorem ok_unevenness (d : Def K mg "unevenness" "unevenness" sUnevenness ["points", "family"]) (c_worst : Cal P w K mg base "worst" 8 ["points", "family"] cWorst) : Cal P w K mg base "unevenness" 9 ["points", "family"] cUneven := by
  refine cal_of d scUnevenness ?len ⟨_, fun f cdv A outer s H E hr => (dss_one (ds_ret (de_ix ix_any l_ix (de_fn c_worst hr (df_cons (de_var 0) (df_cons (de_var 1) df_nil))) de_int))), ?c⟩
  case len =>
    intro ds G h
    simp only [cUneven] at h
    repeat obtain ⟨_, h⟩ := h
    simp [*]
  case c =>
    intro ds G h0
    obtain ⟨pts, n, f, rfl, hp, hn, h⟩ := h0
    simp only [startD, List.map_cons, List.map_nil, argS_eF, argS_ePts, List.cons_append, List.nil_append]
    refine ⟨_, rfl, _, rfl, pts, n, f, rfl, hp, hn, fun u a b hu => ?_⟩
    simp
    exact h u hu
end
end EP

set_option Elab.async false
set_option linter.all false
set_option maxRecDepth 100000
set_option maxHeartbeats 4000000
namespace EP
open PySem PySem.Spec PyProof.Rows L2 DL
def TrOk (n : Nat) (f : Fam) : Tr → Prop
  | .leaf => True
  | .cut s q a P Q => s < n ∧ (q = true → f ≠ .corner) ∧ Sm 50 a ∧ TrOk n f P ∧ TrOk n f Q
  | .ways s P Q => s < n ∧ f = .round ∧ TrOk n f P ∧ TrOk n f Q
theorem eqv_leaf' (T : Tr) : PyData.eqv (pyD (eTr T)) (.tuple []) = isLeaf T := by
  cases T <;> simp [eTr, pyD, pyDs, PyData.eqv, PyData.eqvAll, isLeaf]
@[simp] theorem plain_leaf : plainD 64 (.tup []) = true := rfl
section
variable {P : Program} {w : World} {K : PySem.W.Frag} {mg : Str → Option Value} {base : Heap}
abbrev sEvenExchanged : Stmt := topS 70
theorem scEvenExchanged : FnScope ["paper", "order", "inner"] ["paper", "order"] (defScope sEvenExchanged) := ⟨rfl, rfl, rfl, by decide +kernel, rfl, by decide +kernel, by decide +kernel⟩
def ordOf (n : Nat) : List Int := ((List.range n).map fun (i : Nat) => (i : Int)).reverse
@[simp] def cExch (k : Nat) : Ct := fun ds F => ∃ (T : Tr) (n : Nat) (f : Fam), ds = [eTr T, .ord (ordOf n)] ∧ (n = 1 ∨ n = 2) ∧ TrOk n f T ∧ ht T < k ∧ ht T ≤ 60 ∧ F (eTr (exch n T))
theorem ok_even_exchanged_step (n : Nat) (d : Def K mg "even_exchanged" "even_exchanged" sEvenExchanged ["paper", "order"]) (c_even_exchanged : Cal P w K mg base "even_exchanged" (0 + n) ["paper", "order"] (cExch n)) : Cal P w K mg base "even_exchanged" (0 + n + 1) ["paper", "order"] (cExch (n + 1)) := by
  refine cal_of d scEvenExchanged ?len ⟨_, fun f cdv A outer s H E hr => (dss_cons (ds_if (dt_cmp (op_eqD (hr.units)) l_eqD (de_var 0) (de_tup da_nil))
      (dss_one (ds_ret (de_tup da_nil)))
      dss_nil)
      (dss_cons (ds_set 2 scEvenExchanged.nd (de_tup (da_cons (de_fn c_even_exchanged hr (hjk := by omega) (df_cons (de_ix ix_any l_ix (de_var 0) (de_un un_neg l_neg de_int)) (df_cons (de_var 1) df_nil))) (da_cons (de_fn c_even_exchanged hr (hjk := by omega) (df_cons (de_ix ix_any l_ix (de_var 0) (de_un un_neg l_neg de_int)) (df_cons (de_var 1) df_nil))) da_nil))))
      (dss_one (ds_ret (de_op op_catA l_catT (de_op op_catA l_catT (de_op op_catA l_catT (de_slT (de_var 0) do_none (do_some de_int)) (de_tup (da_cons (de_ordIx 1 (de_ix ix_any l_ix (de_var 0) de_int)) da_nil))) (de_slT (de_var 0) (do_some de_int) (do_some (de_un un_neg l_neg de_int)))) (de_var 2)))))), ?c⟩
  case len =>
    intro ds G h
    simp only [cExch] at h
    repeat obtain ⟨_, h⟩ := h
    simp [*]
  case c =>
    intro ds G h0
    obtain ⟨T, m, f, rfl, hm, ho, hk, hh, h⟩ := h0
    have e1 := plain_eTr T 64 (by omega)
    have e2 := eqv_leaf T
    have hord : ∀ s, s < m → (ordOf m).length ≤ 1000 ∧ (ordOf m)[m - 1 - s]? = some (s : Int) ∧ ∀ i, i < m - 1 - s → ¬ (ordOf m)[i]? = some (s : Int) := fun s hs => by
      rcases hm with rfl | rfl
      · obtain rfl : s = 0 := by omega
        exact ⟨by decide, rfl, fun i hi => absurd hi (by omega)⟩
      · have : s = 0 ∨ s = 1 := by omega
        rcases this with rfl | rfl
        · exact ⟨by decide, rfl, fun i hi => by
            obtain rfl : i = 0 := by omega
            decide⟩
        · exact ⟨by decide, rfl, fun i hi => absurd hi (by omega)⟩
    cases T with
    | leaf =>
      simp [e1, e2, isLeaf]
      exact h
    | cut s q a P Q =>
      obtain ⟨h1, h2, h3, h4, h5⟩ := ho
      simp only [ht] at hk hh
      simp [e1, e2, isLeaf]
      simp [eTr]
      refine ⟨P, rfl, m, rfl, hm, ⟨f, h4⟩, by omega, by omega, Q, rfl, m, rfl, hm, ⟨f, h5⟩, by omega, by omega, ?_⟩
      simp [DL.cutD, HT.sIx]
      exact ⟨(hord s h1).1, _, (hord s h1).2.1, (hord s h1).2.2, h⟩
    | ways s P Q =>
      obtain ⟨h1, h2, h4, h5⟩ := ho
      simp only [ht] at hk hh
      simp [e1, e2, isLeaf]
      simp [eTr]
      refine ⟨P, rfl, m, rfl, hm, ⟨f, h4⟩, by omega, by omega, Q, rfl, m, rfl, hm, ⟨f, h5⟩, by omega, by omega, ?_⟩
      simp [DL.cutD, HT.sIx]
      exact ⟨(hord s h1).1, _, (hord s h1).2.1, (hord s h1).2.2, h⟩
theorem ok_even_exchanged (d : Def K mg "even_exchanged" "even_exchanged" sEvenExchanged ["paper", "order"]) : ∀ n, Cal P w K mg base "even_exchanged" (0 + n) ["paper", "order"] (cExch n)
  | 0 => ((cal_false d).mono (Nat.zero_le _)).imp (fun ds F h => by
    simp [cExch] at h)
  | n + 1 => ok_even_exchanged_step n d (ok_even_exchanged d n)
abbrev sHalfOf : Stmt := topS 71
theorem scHalfOf : FnScope ["paper", "number"] ["paper", "number"] (defScope sHalfOf) := ⟨rfl, rfl, rfl, by decide +kernel, rfl, by decide +kernel, by decide +kernel⟩
@[simp] def cHalf : Ct := fun ds F => ∃ (s : Nat) (q : Bool) (a : Rat) (P Q : Tr) (x : Rat), ds = [eTr (.cut s q a P Q), eQ x] ∧ Sz a ∧ Sz x ∧ F (eTr (if a < x then Q else P))
theorem ok_half_of (d : Def K mg "half_of" "half_of" sHalfOf ["paper", "number"]) (c_is_below : Cal P w K mg base "is_below" 1 ["one", "other"] cBelow) : Cal P w K mg base "half_of" 2 ["paper", "number"] cHalf := by
  refine cal_of d scHalfOf ?len ⟨_, fun f cdv A outer s H E hr => (dss_one (ds_ret (de_if (dt_val (de_fn c_is_below hr (df_cons (de_ix ix_any l_ix (de_var 0) de_int) (df_cons (de_var 1) df_nil)))) (de_ix ix_any l_ix (de_var 0) (de_un un_neg l_neg de_int)) (de_ix ix_any l_ix (de_var 0) (de_un un_neg l_neg de_int))))), ?c⟩
  case len =>
    intro ds G h
    simp only [cHalf] at h
    repeat obtain ⟨_, h⟩ := h
    simp [*]
  case c =>
    intro ds G h0
    obtain ⟨s, q, a, P, Q, x, rfl, ha, hx, h⟩ := h0
    by_cases c : a < x <;> simp [eTr, ha, hx, c] at h ⊢ <;> exact h
def wholeT (f : Fam) : Tr → Tr
  | .leaf => .leaf
  | .cut s q a P Q => if a < (if f ≠ .corner ∧ q = false then 0 else 1) then Q else P
  | .ways s P Q => P
abbrev sWholeSide : Stmt := topS 72
theorem scWholeSide : FnScope ["family", "paper"] ["family", "paper"] (defScope sWholeSide) := ⟨rfl, rfl, rfl, by decide +kernel, rfl, by decide +kernel, by decide +kernel⟩
@[simp] def cWhole : Ct := fun ds F => ∃ (f : Fam) (T : Tr) (n : Nat), ds = [eF f, eTr T] ∧ T ≠ .leaf ∧ TrOk n f T ∧ F (eTr (wholeT f T))
theorem ok_whole_side (d : Def K mg "whole_side" "whole_side" sWholeSide ["family", "paper"]) (k_NOUGHT_evenpapers : Con K mg "NOUGHT_evenpapers" (eQ 0)) (k_ONE_evenpapers : Con K mg "ONE_evenpapers" (eQ 1)) (c_half_of : Cal P w K mg base "half_of" 2 ["paper", "number"] cHalf) : Cal P w K mg base "whole_side" 3 ["family", "paper"] cWhole := by
  refine cal_of d scWholeSide ?len ⟨_, fun f cdv A outer s H E hr => (dss_cons (ds_if (dt_cmp op_eq l_eq (de_ix ix_any l_ix (de_var 1) de_int) de_str)
      (dss_one (ds_ret (de_ix ix_any l_ix (de_var 1) (de_un un_neg l_neg de_int))))
      dss_nil)
      (dss_one (ds_ret (de_fn c_half_of hr (df_cons (de_var 1) (df_cons (de_if (DW.dt (dw_and (dt_cmp op_ne l_ne (de_var 0) de_str) (dw_and1 (dt_cmp op_eq l_eq (de_ix ix_any l_ix (de_var 1) de_int) de_int)))) (de_con k_NOUGHT_evenpapers) (de_con k_ONE_evenpapers)) df_nil)))))), ?c⟩
  case len =>
    intro ds G h
    simp only [cWhole] at h
    repeat obtain ⟨_, h⟩ := h
    simp [*]
  case c =>
    intro ds G h0
    obtain ⟨f, T, n, rfl, hT, ho, h⟩ := h0
    cases T with
    | leaf => exact absurd rfl hT
    | ways s P Q =>
      simp [eTr]
      exact h
    | cut s q a P Q =>
      obtain ⟨h1, h2, h3, h4, h5⟩ := ho
      have h3 := sm_sz h3
      cases f <;> cases q <;> simp [-cHalf, eTr, eF, eBit, wholeT] at h h2 ⊢ <;> first | exact ⟨s, true, a, P, Q, _, rfl, h3, by simp, h⟩ | exact ⟨s, false, a, P, Q, _, rfl, h3, by simp, h⟩
abbrev sEvenShadow : Stmt := topS 73
theorem scEvenShadow : FnScope ["family", "paper", "side", "inner"] ["family", "paper", "side"] (defScope sEvenShadow) := ⟨rfl, rfl, rfl, by decide +kernel, rfl, by decide +kernel, by decide +kernel⟩
@[simp] def cShadow (k : Nat) : Ct := fun ds F => ∃ (f : Fam) (T : Tr) (o : Nat) (n : Nat), ds = [eF f, eTr T, .int (o : Int)] ∧ TrOk n f T ∧ ht T < k ∧ ht T ≤ 60 ∧ F (eTr (shadow f o T))
theorem ok_even_shadow_step (n : Nat) (d : Def K mg "even_shadow" "even_shadow" sEvenShadow ["family", "paper", "side"]) (B : Blt mg) (c_whole_side : Cal P w K mg base "whole_side" 3 ["family", "paper"] cWhole) (c_even_shadow : Cal P w K mg base "even_shadow" (3 + n) ["family", "paper", "side"] (cShadow n)) : Cal P w K mg base "even_shadow" (3 + n + 1) ["family", "paper", "side"] (cShadow (n + 1)) := by
  refine cal_of d scEvenShadow ?len ⟨_, fun f cdv A outer s H E hr => (dss_cons (ds_if (dt_cmp (op_eqD (hr.units)) l_eqD (de_var 1) (de_tup da_nil))
      (dss_one (ds_ret (de_tup da_nil)))
      dss_nil)
      (dss_cons (ds_if (dt_cmp op_eq l_eq (de_ix ix_any l_ix (de_var 1) de_int) (de_var 2))
      (dss_one (ds_ret (de_fn c_even_shadow hr (hjk := by omega) (df_cons (de_var 0) (df_cons (de_fn c_whole_side hr (hjk := by omega) (df_cons (de_var 0) (df_cons (de_var 1) df_nil))) (df_cons (de_var 2) df_nil))))))
      dss_nil)
      (dss_cons (ds_set 3 scEvenShadow.nd (de_tup (da_cons (de_fn c_even_shadow hr (hjk := by omega) (df_cons (de_var 0) (df_cons (de_ix ix_any l_ix (de_var 1) (de_un un_neg l_neg de_int)) (df_cons (de_var 2) df_nil)))) (da_cons (de_fn c_even_shadow hr (hjk := by omega) (df_cons (de_var 0) (df_cons (de_ix ix_any l_ix (de_var 1) (de_un un_neg l_neg de_int)) (df_cons (de_var 2) df_nil)))) da_nil))))
      (dss_one (ds_ret (de_op op_catA l_catT (de_op op_catA l_catT (de_op op_catA l_catT (de_slT (de_var 1) do_none (do_some de_int)) (de_tup (da_cons (de_op op_sub l_I0 (de_ix ix_any l_ix (de_var 1) de_int) (de_callTy call_int1 l_intB B.int boot_int_ (da_cons (de_cmp op_gt l_B0 (de_ix ix_any l_ix (de_var 1) de_int) (de_var 2)) da_nil))) da_nil))) (de_slT (de_var 1) (do_some de_int) (do_some (de_un un_neg l_neg de_int)))) (de_var 3))))))), ?c⟩
  case len =>
    intro ds G h
    simp only [cShadow] at h
    repeat obtain ⟨_, h⟩ := h
    simp [*]
  case c =>
    intro ds G h0
    obtain ⟨f, T, o, m, rfl, ho, hk, hh, h⟩ := h0
    have e1 := plain_eTr T 64 (by omega)
    have e2 := eqv_leaf T
    cases T with
    | leaf =>
      simp [e1, e2, isLeaf]
      exact h
    | cut s q a P Q =>
      have hw : ∀ F : D → Prop, cShadow n [eF f, eTr (wholeT f (.cut s q a P Q)), .int (o : Int)] F → cWhole [eF f, eTr (.cut s q a P Q)] (fun x => cShadow n [eF f, x, .int (o : Int)] F) := fun F hf => ⟨f, .cut s q a P Q, m, rfl, by simp, ho, hf⟩
      obtain ⟨h1, h2, h3, h4, h5⟩ := ho
      simp only [ht] at hk hh
      simp [-cWhole, -cShadow, e1, e2, isLeaf]
      by_cases c : s = o
      · subst c
        simp [-cWhole, -cShadow, eTr] at hw ⊢
        refine hw _ ?_
        simp only [shadow, if_true] at h
        simp only [wholeT]
        by_cases c2 : a < (if f ≠ .corner ∧ q = false then 0 else 1)
        · rw [if_pos c2] at h ⊢
          exact ⟨f, Q, s, m, rfl, h5, by omega, by omega, h⟩
        · rw [if_neg c2] at h ⊢
          exact ⟨f, P, s, m, rfl, h4, by omega, by omega, h⟩
      · have c' : ¬ ((s : Int) = o) := by omega
        simp [-cWhole, -cShadow, eTr, c, c']
        refine ⟨f, P, o, m, rfl, h4, by omega, by omega, f, Q, o, m, rfl, h5, by omega, by omega, ?_⟩
        simp only [shadow, c, if_false] at h
        by_cases c3 : o < s
        · have : ((s : Int) - 1) = ((s - 1 : Nat) : Int) := by omega
          simp [DL.cutD, HT.sIx, c3, this] at h ⊢
          exact h
        · simp [DL.cutD, HT.sIx, c3] at h ⊢
          exact h
    | ways s P Q =>
      have hw : ∀ F : D → Prop, cShadow n [eF f, eTr (wholeT f (.ways s P Q)), .int (o : Int)] F → cWhole [eF f, eTr (.ways s P Q)] (fun x => cShadow n [eF f, x, .int (o : Int)] F) := fun F hf => ⟨f, .ways s P Q, m, rfl, by simp, ho, hf⟩
      obtain ⟨h1, h2, h4, h5⟩ := ho
      simp only [ht] at hk hh
      simp [-cWhole, -cShadow, e1, e2, isLeaf]
      by_cases c : s = o
      · subst c
        simp [-cWhole, -cShadow, eTr] at hw ⊢
        refine hw _ ?_
        simp only [shadow, if_true] at h
        exact ⟨f, P, s, m, rfl, h4, by omega, by omega, h⟩
      · have c' : ¬ ((s : Int) = o) := by omega
        simp [-cWhole, -cShadow, eTr, c, c']
        refine ⟨f, P, o, m, rfl, h4, by omega, by omega, f, Q, o, m, rfl, h5, by omega, by omega, ?_⟩
        simp only [shadow, c, if_false] at h
        by_cases c3 : o < s
        · have : ((s : Int) - 1) = ((s - 1 : Nat) : Int) := by omega
          simp [DL.cutD, HT.sIx, c3, this] at h ⊢
          exact h
        · simp [DL.cutD, HT.sIx, c3] at h ⊢
          exact h
theorem ok_even_shadow (d : Def K mg "even_shadow" "even_shadow" sEvenShadow ["family", "paper", "side"]) (B : Blt mg) (c_whole_side : Cal P w K mg base "whole_side" 3 ["family", "paper"] cWhole) : ∀ n, Cal P w K mg base "even_shadow" (3 + n) ["family", "paper", "side"] (cShadow n)
  | 0 => ((cal_false d).mono (Nat.zero_le _)).imp (fun ds F h => by
    simp [cShadow] at h)
  | n + 1 => ok_even_shadow_step n d B c_whole_side (ok_even_shadow d B c_whole_side n)
abbrev sEvenInner : Stmt := topS 74
theorem scEvenInner : FnScope ["paper"] ["paper"] (defScope sEvenInner) := ⟨rfl, rfl, rfl, by decide +kernel, rfl, by decide +kernel, by decide +kernel⟩
@[simp] def cInner (k : Nat) : Ct := fun ds F => ∃ (T : Tr), ds = [eTr T] ∧ ht T < k ∧ ht T ≤ 60 ∧ F (eTr (innerT T))
theorem ok_even_inner_step (n : Nat) (d : Def K mg "even_inner" "even_inner" sEvenInner ["paper"]) (c_even_inner : Cal P w K mg base "even_inner" (0 + n) ["paper"] (cInner n)) : Cal P w K mg base "even_inner" (0 + n + 1) ["paper"] (cInner (n + 1)) := by
  refine cal_of d scEvenInner ?len ⟨_, fun f cdv A outer s H E hr => (dss_cons (ds_if (dt_cmp (op_eqD (hr.units)) l_eqD (de_var 0) (de_tup da_nil))
      (dss_one (ds_ret (de_tup da_nil)))
      dss_nil)
      (dss_cons (ds_if (dt_cmp op_eq l_eq (de_ix ix_any l_ix (de_var 0) de_int) de_str)
      (dss_one (ds_ret (de_fn c_even_inner hr (hjk := by omega) (df_cons (de_ix ix_any l_ix (de_var 0) (de_un un_neg l_neg de_int)) df_nil))))
      dss_nil)
      (dss_one (ds_ret (de_op op_catA l_catT (de_slT (de_var 0) do_none (do_some (de_un un_neg l_neg de_int))) (de_tup (da_cons (de_fn c_even_inner hr (hjk := by omega) (df_cons (de_ix ix_any l_ix (de_var 0) (de_un un_neg l_neg de_int)) df_nil)) (da_cons (de_fn c_even_inner hr (hjk := by omega) (df_cons (de_ix ix_any l_ix (de_var 0) (de_un un_neg l_neg de_int)) df_nil)) da_nil)))))))), ?c⟩
  case len =>
    intro ds G h
    simp only [cInner] at h
    repeat obtain ⟨_, h⟩ := h
    simp [*]
  case c =>
    intro ds G h0
    obtain ⟨T, rfl, hk, hh, h⟩ := h0
    have e1 := plain_eTr T 64 (by omega)
    have e2 := eqv_leaf T
    cases T with
    | leaf =>
      simp [e1, e2, isLeaf]
      exact h
    | cut s q a P Q =>
      simp only [ht] at hk hh
      simp [e1, e2, isLeaf]
      simp [eTr]
      refine ⟨P, rfl, by omega, by omega, Q, rfl, by omega, by omega, ?_⟩
      simp [DL.cutD, HT.sIx]
      exact h
    | ways s P Q =>
      simp only [ht] at hk hh
      simp [e1, e2, isLeaf]
      simp [eTr]
      exact ⟨P, rfl, by omega, by omega, h⟩
theorem ok_even_inner (d : Def K mg "even_inner" "even_inner" sEvenInner ["paper"]) : ∀ n, Cal P w K mg base "even_inner" (0 + n) ["paper"] (cInner n)
  | 0 => ((cal_false d).mono (Nat.zero_le _)).imp (fun ds F h => by
    simp [cInner] at h)
  | n + 1 => ok_even_inner_step n d (ok_even_inner d n)
abbrev sEvenCorner : Stmt := topS 75
theorem scEvenCorner : FnScope ["paper"] ["paper"] (defScope sEvenCorner) := ⟨rfl, rfl, rfl, by decide +kernel, rfl, by decide +kernel, by decide +kernel⟩
@[simp] def cCorner (k : Nat) : Ct := fun ds F => ∃ (T : Tr) (n : Nat) (f : Fam), ds = [eTr T] ∧ noW T ∧ TrOk n f T ∧ ht T < k ∧ ht T ≤ 60 ∧ F (eTr (cornerT T))
theorem ok_even_corner_step (n : Nat) (d : Def K mg "even_corner" "even_corner" sEvenCorner ["paper"]) (k_NOUGHT_evenpapers : Con K mg "NOUGHT_evenpapers" (eQ 0)) (c_half_of : Cal P w K mg base "half_of" 2 ["paper", "number"] cHalf) (c_even_corner : Cal P w K mg base "even_corner" (2 + n) ["paper"] (cCorner n)) : Cal P w K mg base "even_corner" (2 + n + 1) ["paper"] (cCorner (n + 1)) := by
  refine cal_of d scEvenCorner ?len ⟨_, fun f cdv A outer s H E hr => (dss_cons (ds_if (dt_cmp (op_eqD (hr.units)) l_eqD (de_var 0) (de_tup da_nil))
      (dss_one (ds_ret (de_tup da_nil)))
      dss_nil)
      (dss_cons (ds_if (dt_cmp op_eq l_eq (de_ix ix_any l_ix (de_var 0) de_int) de_int)
      (dss_one (ds_ret (de_fn c_even_corner hr (hjk := by omega) (df_cons (de_fn c_half_of hr (hjk := by omega) (df_cons (de_var 0) (df_cons (de_con k_NOUGHT_evenpapers) df_nil))) df_nil))))
      dss_nil)
      (dss_one (ds_ret (de_op op_catA l_catT (de_slT (de_var 0) do_none (do_some de_int)) (de_tup (da_cons de_int (da_cons (de_ix ix_any l_ix (de_var 0) de_int) (da_cons (de_fn c_even_corner hr (hjk := by omega) (df_cons (de_ix ix_any l_ix (de_var 0) (de_un un_neg l_neg de_int)) df_nil)) (da_cons (de_fn c_even_corner hr (hjk := by omega) (df_cons (de_ix ix_any l_ix (de_var 0) (de_un un_neg l_neg de_int)) df_nil)) da_nil)))))))))), ?c⟩
  case len =>
    intro ds G h
    simp only [cCorner] at h
    repeat obtain ⟨_, h⟩ := h
    simp [*]
  case c =>
    intro ds G h0
    obtain ⟨T, m, f, rfl, hn, ho, hk, hh, h⟩ := h0
    have e1 := plain_eTr T 64 (by omega)
    have e2 := eqv_leaf T
    cases T with
    | leaf =>
      simp [e1, e2, isLeaf]
      exact h
    | ways s P Q => exact hn.elim
    | cut s q a P Q =>
      obtain ⟨h1, h2, h3, h4, h5⟩ := ho
      have hw : ∀ F : D → Prop, cCorner n [eTr (if a < 0 then Q else P)] F → cHalf [eTr (.cut s q a P Q), eQ 0] (fun x => cCorner n [x] F) := fun F hf => ⟨s, q, a, P, Q, 0, rfl, sm_sz h3, by simp, hf⟩
      simp only [ht] at hk hh
      simp [-cHalf, -cCorner, e1, e2, isLeaf]
      cases q
      · simp [-cHalf, -cCorner, eTr, eBit] at hw ⊢
        refine hw _ ?_
        simp only [cornerT, if_true] at h
        by_cases c2 : a < 0
        · rw [if_pos c2] at h ⊢
          exact ⟨Q, m, f, rfl, hn.2, h5, by omega, by omega, h⟩
        · rw [if_neg c2] at h ⊢
          exact ⟨P, m, f, rfl, hn.1, h4, by omega, by omega, h⟩
      · simp [-cHalf, -cCorner, eTr, eBit]
        refine ⟨P, m, f, rfl, hn.1, h4, by omega, by omega, Q, m, f, rfl, hn.2, h5, by omega, by omega, ?_⟩
        simp [DL.cutD, HT.sIx]
        exact h
theorem ok_even_corner (d : Def K mg "even_corner" "even_corner" sEvenCorner ["paper"]) (k_NOUGHT_evenpapers : Con K mg "NOUGHT_evenpapers" (eQ 0)) (c_half_of : Cal P w K mg base "half_of" 2 ["paper", "number"] cHalf) : ∀ n, Cal P w K mg base "even_corner" (2 + n) ["paper"] (cCorner n)
  | 0 => ((cal_false d).mono (Nat.zero_le _)).imp (fun ds F h => by
    simp [cCorner] at h)
  | n + 1 => ok_even_corner_step n d k_NOUGHT_evenpapers c_half_of (ok_even_corner d k_NOUGHT_evenpapers c_half_of n)
end
end EP

set_option Elab.async false
set_option linter.all false
set_option maxRecDepth 100000
set_option maxHeartbeats 4000000
namespace EP
open PySem PySem.Spec PyProof.Rows L2 DL
def onlyP (cell : Cell) : Tr → Option Tr
  | .leaf => none
  | .cut s q a P Q => if ((getC cell s).rng q).1 < a then (if a < ((getC cell s).rng q).2 then none else some P) else some Q
  | .ways s P Q => if (getC cell s).w = .un then none else if (getC cell s).w = .rnd then some Q else some P
def eOpt : Option Tr → D
  | none => .non
  | some T => eTr T
theorem kid_ok {f : Fam} {cell : Cell} {T : Tr} (hc : CellF f cell) (ho : TrOk cell.length f T) (hT : T ≠ .leaf) : KidOk cell T := by
  cases T with
  | leaf => exact absurd rfl hT
  | cut s q a P Q =>
    obtain ⟨h1, h2, _⟩ := ho
    refine ⟨h1, fun e => ?_⟩
    cases q
    · rfl
    · exact absurd ((hc.1 _ (getC_mem h1)).2.mp e) (h2 rfl)
  | ways s P Q =>
    obtain ⟨h1, h2, _⟩ := ho
    refine ⟨h1, fun e => ?_⟩
    rw [(hc.1 _ (getC_mem h1)).2.mp e] at h2
    cases h2
@[simp] theorem kind_l (l : List D) : kindItems true (.lst l) = some l := rfl
@[simp] theorem kind_t (l : List D) : kindItems false (.tup l) = some l := rfl
section
variable {P : Program} {w : World} {K : PySem.W.Frag} {mg : Str → Option Value} {base : Heap}
abbrev sOnlyPart : Stmt := topS 76
theorem scOnlyPart : FnScope ["cell", "paper", "word", "ranges", "low", "high"] ["cell", "paper"] (defScope sOnlyPart) := ⟨rfl, rfl, rfl, by decide +kernel, rfl, by decide +kernel, by decide +kernel⟩
@[simp] def cOnly : Ct := fun ds F => ∃ (cell : Cell) (f : Fam) (T : Tr), ds = [eCell cell, eTr T] ∧ T ≠ .leaf ∧ CellF f cell ∧ TrOk cell.length f T ∧ F (eOpt (onlyP cell T))
theorem ok_only_part (d : Def K mg "only_part" "only_part" sOnlyPart ["cell", "paper"]) (B : Blt mg) (c_is_below : Cal P w K mg base "is_below" 1 ["one", "other"] cBelow) : Cal P w K mg base "only_part" 2 ["cell", "paper"] cOnly := by
  refine cal_of d scOnlyPart ?len ⟨_, fun f cdv A outer s H E hr => (dss_cons (ds_asg (de_ix ix_any l_ix (de_var 0) (de_ix ix_any l_ix (de_var 1) de_int)) (dg_tup (n := 2) rfl (dgs_cons (dg_name 2 scOnlyPart.nd) (dgs_cons (dg_name 3 scOnlyPart.nd) dgs_nil))))
      (dss_cons (ds_if (dt_cmp op_eq l_eq (de_ix ix_any l_ix (de_var 1) de_int) de_str)
      (dss_one (ds_ret (de_if (dt_cmp op_isN l_isN (de_var 2) de_non) de_non (de_ix ix_any l_ix (de_var 1) (de_op op_add l_I0 (de_un un_neg l_neg de_int) (de_callTy call_int1 l_intB B.int boot_int_ (da_cons (de_cmp op_eq l_eq (de_var 2) de_str) da_nil)))))))
      dss_nil)
      (dss_cons (ds_asg (de_ix ix_any l_ix (de_var 3) (de_ix ix_any l_ix (de_var 1) de_int)) (dg_tup (n := 2) rfl (dgs_cons (dg_name 4 scOnlyPart.nd) (dgs_cons (dg_name 5 scOnlyPart.nd) dgs_nil))))
      (dss_cons (ds_if (dt_not (dt_val (de_fn c_is_below hr (df_cons (de_var 4) (df_cons (de_ix ix_any l_ix (de_var 1) de_int) df_nil)))))
      (dss_one (ds_ret (de_ix ix_any l_ix (de_var 1) (de_un un_neg l_neg de_int))))
      dss_nil)
      (dss_one (ds_ret (de_if (dt_val (de_fn c_is_below hr (df_cons (de_ix ix_any l_ix (de_var 1) de_int) (df_cons (de_var 5) df_nil)))) de_non (de_ix ix_any l_ix (de_var 1) (de_un un_neg l_neg de_int))))))))), ?c⟩
  case len =>
    intro ds G h
    simp only [cOnly] at h
    repeat obtain ⟨_, h⟩ := h
    simp [*]
  case c =>
    intro ds G h0
    obtain ⟨cell, f, T, rfl, hT, hc, ho, h⟩ := h0
    have hk := kid_ok hc ho hT
    cases T with
    | leaf => exact absurd rfl hT
    | ways s P Q =>
      obtain ⟨h1, h2⟩ := hk
      have hw : (getC cell s).w = .frm ∨ (getC cell s).w = .rnd ∨ (getC cell s).w = .un := by
        cases e : (getC cell s).w <;> simp [e] at h2 ⊢
      simp [eTr, eCell, get_map h1, eCS]
      rcases hw with e | e | e <;> simp [onlyP, e, eW, eOpt] at h ⊢ <;> exact h
    | cut s q a P Q =>
      obtain ⟨h1, h2⟩ := hk
      have hm := hc.1 _ (getC_mem h1)
      have e3 := eRs_ix q _ h2
      have s1 : Sz ((getC cell s).rng q).1 := by
        cases q
        · exact sm_sz hm.1.1
        · exact sm_sz hm.1.2.2.1
      have s2 : Sz ((getC cell s).rng q).2 := by
        cases q
        · exact sm_sz hm.1.2.1
        · exact sm_sz hm.1.2.2.2
      have s3 := sm_sz ho.2.2.1
      simp [eTr, eCell, get_map h1, eCS, eBit, e3, s1, s2, s3]
      by_cases c1 : ((getC cell s).rng q).1 < a <;> by_cases c2 : a < ((getC cell s).rng q).2 <;> simp [onlyP, c1, c2, eOpt] at h ⊢ <;> exact h
abbrev sGrafted : Stmt := topS 77
theorem scGrafted : FnScope ["cell", "one", "other", "part", "head", "found", "inner", "piece"] ["cell", "one", "other"] (defScope sGrafted) := ⟨rfl, rfl, rfl, by decide +kernel, rfl, by decide +kernel, by decide +kernel⟩
@[simp] def cGraft (k : Nat) : Ct := fun ds F => ∃ (cell : Cell) (f : Fam) (T M : Tr), ds = [eCell cell, eTr T, eTr M] ∧ CellF f cell ∧ TrOk cell.length f T ∧ TrOk cell.length f M ∧ ht T + ht M < k ∧ ht T + ht M ≤ 50 ∧ F (eTr (graft cell T M))
theorem ok_grafted_step (n : Nat) (d : Def K mg "grafted" "grafted" sGrafted ["cell", "one", "other"]) (B : Blt mg) (c_only_part : Cal P w K mg base "only_part" 2 ["cell", "paper"] cOnly) (c_cells_behind : Cal P w K mg base "cells_behind" 3 ["cell", "thing"] cBehind) (c_grafted : Cal P w K mg base "grafted" (3 + n) ["cell", "one", "other"] (cGraft n)) : Cal P w K mg base "grafted" (3 + n + 1) ["cell", "one", "other"] (cGraft (n + 1)) := by
  refine cal_of d scGrafted ?len ⟨_, fun f cdv A outer s H E hr => (dss_cons (ds_if (DW.dt (dw_and (dt_cmp (op_eqD (hr.units)) l_eqD (de_var 1) (de_tup da_nil)) (dw_and1 (dt_cmp (op_eqD (hr.units)) l_eqD (de_var 2) (de_tup da_nil)))))
      (dss_one (ds_ret (de_tup da_nil)))
      dss_nil)
      (dss_cons (ds_if (dt_cmp (op_eqD (hr.units)) l_eqD (de_var 1) (de_tup da_nil))
      (dss_cons (ds_set 3 scGrafted.nd (de_fn c_only_part hr (hjk := by omega) (df_cons (de_var 0) (df_cons (de_var 2) df_nil))))
      (dss_one (ds_if (dt_cmp op_notN l_notN (de_var 3) de_non)
      (dss_one (ds_ret (de_fn c_grafted hr (hjk := by omega) (df_cons (de_var 0) (df_cons (de_var 1) (df_cons (de_var 3) df_nil))))))
      dss_nil)))
      dss_nil)
      (dss_cons (ds_set 4 scGrafted.nd (de_if (dt_cmp (op_neD (hr.units)) l_neD (de_var 1) (de_tup da_nil)) (de_var 1) (de_var 2)))
      (dss_cons (ds_set 5 scGrafted.nd (de_slT (de_var 4) do_none (do_some (de_un un_neg l_neg de_int))))
      (dss_cons (ds_for PassesOwn.never rfl (di_zip true false B.zip (da_cons (de_fn c_cells_behind hr (hjk := by omega) (df_cons (de_var 0) (df_cons (de_var 4) df_nil))) (da_cons (de_slT (de_var 4) (do_some (de_un un_neg l_neg de_int)) do_none) da_nil))) (dg_tup (n := 2) rfl (dgs_cons (dg_name 6 scGrafted.nd) (dgs_cons (dg_name 7 scGrafted.nd) dgs_nil)))
      (dss_one (ds_set 5 scGrafted.nd (de_op op_catA l_catT (de_var 5) (de_tup (da_cons (de_if (dt_cmp (op_neD (hr.units)) l_neD (de_var 1) (de_tup da_nil)) (de_fn c_grafted hr (hjk := by omega) (df_cons (de_var 6) (df_cons (de_var 7) (df_cons (de_var 2) df_nil)))) (de_fn c_grafted hr (hjk := by omega) (df_cons (de_var 6) (df_cons (de_var 1) (df_cons (de_var 7) df_nil))))) da_nil))))))
      (dss_one (ds_ret (de_var 5)))))))), ?c⟩
  case len =>
    intro ds G h
    simp only [cGraft] at h
    repeat obtain ⟨_, h⟩ := h
    simp [*]
  case c =>
    intro ds G h0
    obtain ⟨cell, f, T, M, rfl, hc, hT, hM, hk, hh, h⟩ := h0
    have hlen : cell.length ≤ 2 := by have := hc.2; omega
    have p1 := plain_eTr T 64 (by omega)
    have p2 := plain_eTr M 64 (by omega)
    have q1 := eqv_leaf T
    have q2 := eqv_leaf M
    have head : ∀ (X : Tr) (o3 : Option S) (R : Cell → Cell → Tr → Tr → Prop) , True := fun _ _ _ => trivial
    clear head
    cases T with
    | leaf =>
      cases M with
      | leaf =>
        simp [p1, q1, isLeaf]
        exact h
      | cut s q a P Q =>
        have hon : ∀ F : D → Prop, F (eOpt (onlyP cell (.cut s q a P Q))) → cOnly [eCell cell, eTr (.cut s q a P Q)] F := fun F hf => ⟨cell, f, .cut s q a P Q, rfl, by simp, hc, hM, hf⟩
        have hbe : ∀ F : D → Prop, F (.lst [eCell (cell.modify s (CS.low q a)), eCell (cell.modify s (CS.high q a))]) → cBehind [eCell cell, eTr (.cut s q a P Q)] F := fun F hf => ⟨cell, .cut s q a P Q, rfl, kid_ok hc hM (by simp), hlen, hf⟩
        obtain ⟨m1, m2, m3, m4, m5⟩ := hM
        simp only [ht] at hk hh
        simp [-cOnly, -cBehind, -cGraft, p1, q1, p2, q2, isLeaf]
        refine hon _ ?_
        simp only [graft, graftL] at h
        simp only [onlyP]
        by_cases c1 : ((getC cell s).rng q).1 < a
        · rw [if_pos c1] at h ⊢
          by_cases c2 : a < ((getC cell s).rng q).2
          · rw [if_pos c2] at h ⊢
            simp [-cOnly, -cBehind, -cGraft, p1, q1, p2, q2, isLeaf, eOpt]
            refine ⟨_, rfl, hbe _ ⟨_, rfl, _, rfl, ?_⟩⟩
            simp [-cOnly, -cBehind, -cGraft, zipD, DL.cutD, HT.sIx, ForD, p1, q1, isLeaf]
            refine ⟨_, f, .leaf, P, rfl, hc.low m3, trivial, by simpa using m4, by simp only [ht]; omega, by simp only [ht]; omega, _, f, .leaf, Q, rfl, hc.high m3, trivial, by simpa using m5, by simp only [ht]; omega, by simp only [ht]; omega, h⟩
          · rw [if_neg c2] at h ⊢
            simp [-cOnly, -cBehind, -cGraft, p1, q1, p2, q2, isLeaf, eOpt]
            exact ⟨cell, f, .leaf, P, rfl, hc, trivial, m4, by simp only [ht]; omega, by simp only [ht]; omega, h⟩
        · rw [if_neg c1] at h ⊢
          simp [-cOnly, -cBehind, -cGraft, p1, q1, p2, q2, isLeaf, eOpt]
          exact ⟨cell, f, .leaf, Q, rfl, hc, trivial, m5, by simp only [ht]; omega, by simp only [ht]; omega, h⟩
      | ways s P Q =>
        have hon : ∀ F : D → Prop, F (eOpt (onlyP cell (.ways s P Q))) → cOnly [eCell cell, eTr (.ways s P Q)] F := fun F hf => ⟨cell, f, .ways s P Q, rfl, by simp, hc, hM, hf⟩
        have hbe : ∀ F : D → Prop, F (.lst [eCell (cell.modify s (CS.word .frm)), eCell (cell.modify s (CS.word .rnd))]) → cBehind [eCell cell, eTr (.ways s P Q)] F := fun F hf => ⟨cell, .ways s P Q, rfl, kid_ok hc hM (by simp), hlen, hf⟩
        obtain ⟨m1, m2, m4, m5⟩ := hM
        have hnc : f ≠ .corner := by rw [m2]; simp
        simp only [ht] at hk hh
        simp [-cOnly, -cBehind, -cGraft, p1, q1, p2, q2, isLeaf]
        refine hon _ ?_
        simp only [graft, graftL] at h
        simp only [onlyP]
        by_cases c1 : (getC cell s).w = .un
        · rw [if_pos c1] at h ⊢
          simp [-cOnly, -cBehind, -cGraft, p1, q1, p2, q2, isLeaf, eOpt]
          refine ⟨_, rfl, hbe _ ⟨_, rfl, _, rfl, ?_⟩⟩
          simp [-cOnly, -cBehind, -cGraft, zipD, DL.cutD, HT.sIx, ForD, p1, q1, isLeaf]
          refine ⟨_, f, .leaf, P, rfl, hc.word hnc (by simp), trivial, by simpa using m4, by simp only [ht]; omega, by simp only [ht]; omega, _, f, .leaf, Q, rfl, hc.word hnc (by simp), trivial, by simpa using m5, by simp only [ht]; omega, by simp only [ht]; omega, h⟩
        · rw [if_neg c1] at h ⊢
          by_cases c2 : (getC cell s).w = .rnd
          · rw [if_pos c2] at h ⊢
            simp [-cOnly, -cBehind, -cGraft, p1, q1, p2, q2, isLeaf, eOpt]
            exact ⟨cell, f, .leaf, Q, rfl, hc, trivial, m5, by simp only [ht]; omega, by simp only [ht]; omega, h⟩
          · rw [if_neg c2] at h ⊢
            simp [-cOnly, -cBehind, -cGraft, p1, q1, p2, q2, isLeaf, eOpt]
            exact ⟨cell, f, .leaf, P, rfl, hc, trivial, m4, by simp only [ht]; omega, by simp only [ht]; omega, h⟩
    | cut s q a P Q =>
      have hbe : ∀ F : D → Prop, F (.lst [eCell (cell.modify s (CS.low q a)), eCell (cell.modify s (CS.high q a))]) → cBehind [eCell cell, eTr (.cut s q a P Q)] F := fun F hf => ⟨cell, .cut s q a P Q, rfl, kid_ok hc hT (by simp), hlen, hf⟩
      obtain ⟨m1, m2, m3, m4, m5⟩ := hT
      simp only [ht] at hk hh
      simp only [graft] at h
      simp [-cOnly, -cBehind, -cGraft, p1, q1, p2, q2, isLeaf]
      refine ⟨_, rfl, hbe _ ⟨_, rfl, _, rfl, ?_⟩⟩
      simp [-cOnly, -cBehind, -cGraft, zipD, DL.cutD, HT.sIx, ForD, p1, q1, isLeaf]
      refine ⟨_, f, P, M, rfl, hc.low m3, by simpa using m4, by simpa using hM, by omega, by omega, _, f, Q, M, rfl, hc.high m3, by simpa using m5, by simpa using hM, by omega, by omega, h⟩
    | ways s P Q =>
      have hbe : ∀ F : D → Prop, F (.lst [eCell (cell.modify s (CS.word .frm)), eCell (cell.modify s (CS.word .rnd))]) → cBehind [eCell cell, eTr (.ways s P Q)] F := fun F hf => ⟨cell, .ways s P Q, rfl, kid_ok hc hT (by simp), hlen, hf⟩
      obtain ⟨m1, m2, m4, m5⟩ := hT
      have hnc : f ≠ .corner := by rw [m2]; simp
      simp only [ht] at hk hh
      simp only [graft] at h
      simp [-cOnly, -cBehind, -cGraft, p1, q1, p2, q2, isLeaf]
      refine ⟨_, rfl, hbe _ ⟨_, rfl, _, rfl, ?_⟩⟩
      simp [-cOnly, -cBehind, -cGraft, zipD, DL.cutD, HT.sIx, ForD, p1, q1, isLeaf]
      refine ⟨_, f, P, M, rfl, hc.word hnc (by simp), by simpa using m4, by simpa using hM, by omega, by omega, _, f, Q, M, rfl, hc.word hnc (by simp), by simpa using m5, by simpa using hM, by omega, by omega, h⟩
theorem ok_grafted (d : Def K mg "grafted" "grafted" sGrafted ["cell", "one", "other"]) (B : Blt mg) (c_only_part : Cal P w K mg base "only_part" 2 ["cell", "paper"] cOnly) (c_cells_behind : Cal P w K mg base "cells_behind" 3 ["cell", "thing"] cBehind) : ∀ n, Cal P w K mg base "grafted" (3 + n) ["cell", "one", "other"] (cGraft n)
  | 0 => ((cal_false d).mono (Nat.zero_le _)).imp (fun ds F h => by
    simp [cGraft] at h)
  | n + 1 => ok_grafted_step n d B c_only_part c_cells_behind (ok_grafted d B c_only_part c_cells_behind n)
abbrev sEvenJoined : Stmt := topS 78
theorem scEvenJoined : FnScope ["family", "sides", "one", "other"] ["family", "sides", "one", "other"] (defScope sEvenJoined) := ⟨rfl, rfl, rfl, by decide +kernel, rfl, by decide +kernel, by decide +kernel⟩
@[simp] def cJoined : Ct := fun ds F => ∃ (f : Fam) (n : Nat) (T M : Tr), ds = [eF f, .int (n : Int), eTr T, eTr M] ∧ (n = 1 ∨ n = 2) ∧ TrOk n f T ∧ TrOk n f M ∧ ht T + ht M < 24 ∧ F (eTr (graft (first n f) T M))
theorem ok_even_joined (d : Def K mg "even_joined" "even_joined" sEvenJoined ["family", "sides", "one", "other"]) (c_grafted : Cal P w K mg base "grafted" 27 ["cell", "one", "other"] (cGraft 24)) (c_first_cell : Cal P w K mg base "first_cell" 1 ["s", "family"] cFirstCell) : Cal P w K mg base "even_joined" 28 ["family", "sides", "one", "other"] cJoined := by
  refine cal_of d scEvenJoined ?len ⟨_, fun f cdv A outer s H E hr => (dss_one (ds_ret (de_fn c_grafted hr (df_cons (de_fn c_first_cell hr (df_cons (de_var 1) (df_cons (de_var 0) df_nil))) (df_cons (de_var 2) (df_cons (de_var 3) df_nil)))))), ?c⟩
  case len =>
    intro ds G h
    simp only [cJoined] at h
    repeat obtain ⟨_, h⟩ := h
    simp [*]
  case c =>
    intro ds G h0
    obtain ⟨f, n, T, M, rfl, hn, hT, hM, hh, h⟩ := h0
    simp [-cGraft]
    refine ⟨n, rfl, hn, first n f, f, T, M, rfl, first_ok n f hn, by simpa [first] using hT, by simpa [first] using hM, hh, by omega, h⟩
end
end EP

set_option Elab.async false
set_option linter.all false
set_option maxRecDepth 100000
set_option maxHeartbeats 4000000
namespace EP
open PySem PySem.Spec PyProof.Rows L2 DL
theorem mk_add1 (m : Int) (b : Nat) (hb : b ≠ 0) : mkRat ((b : Int) + m) b = 1 + mkRat m b := by
  rw [Rat.mkRat_eq_div, Rat.mkRat_eq_div]
  have h : (b : Rat) ≠ 0 := by exact_mod_cast hb
  rw [Rat.intCast_add]
  rw [Rat.intCast_natCast]
  grind
theorem mk_self (b : Nat) (hb : b ≠ 0) : mkRat (b : Int) b = 1 := by
  have := mk_add1 0 b hb
  simpa [Rat.add_zero] using this
theorem mk_pos (m : Int) (b : Nat) (hb : b ≠ 0) : (0 < mkRat m b) ↔ 0 < m := by
  have h : (0 : Rat) < (b : Rat) := by exact_mod_cast Nat.pos_of_ne_zero hb
  rw [Rat.mkRat_eq_div, Rat.lt_div_iff h, Rat.zero_mul]
  exact_mod_cast Iff.rfl
theorem mk_neg (m : Int) (b : Nat) (hb : b ≠ 0) : (mkRat m b < 0) ↔ m < 0 := by
  have h : (0 : Rat) < (b : Rat) := by exact_mod_cast Nat.pos_of_ne_zero hb
  rw [Rat.mkRat_eq_div, Rat.div_lt_iff h, Rat.zero_mul]
  exact_mod_cast Iff.rfl
theorem need_law (k : Int) (n : Nat) (hn : n ≠ 0) (l : Rat) : mkRat (k * l.den - n * l.num) (n * l.den) = mkRat k n - l := by
  conv => rhs; rw [← Rat.mkRat_self l]
  rw [Rat.sub_eq_add_neg, Rat.neg_mkRat, Rat.mkRat_add_mkRat _ _ hn l.den_nz]
  congr 1
  rw [Int.neg_mul, Int.mul_comm l.num]
  rfl
theorem need_law2 (k : Int) (n : Nat) (hn : n ≠ 0) (l : Rat) : mkRat (n * l.num - k * l.den) (n * l.den) = l - mkRat k n := by
  conv => rhs; rw [← Rat.mkRat_self l]
  rw [Rat.sub_eq_add_neg, Rat.neg_mkRat, Rat.mkRat_add_mkRat _ _ l.den_nz hn]
  congr 1
  · rw [Int.neg_mul, Int.mul_comm l.num]
    rfl
  · exact Nat.mul_comm _ _
section
variable {P : Program} {w : World} {K : PySem.W.Frag} {mg : Str → Option Value} {base : Heap}
abbrev sLawFrac : Stmt := topS 82
theorem scLawFrac : FnScope ["_law_top", "_law_bottom", "_law_one", "_law_other"] ["_law_top", "_law_bottom"] (defScope sLawFrac) := ⟨rfl, rfl, rfl, by decide +kernel, rfl, by decide +kernel, by decide +kernel⟩
theorem ok__law_frac (d : Def K mg "_law_frac" "_law_frac" sLawFrac ["_law_top", "_law_bottom"]) (B : Blt mg) : Cal P w K mg base "_law_frac" 1 ["_law_top", "_law_bottom"] cFraction := by
  refine cal_of d scLawFrac ?len ⟨_, fun f cdv A outer s H E hr => (dss_cons (ds_par 2 3 rfl scLawFrac.nd (da_cons (de_callB call_abs l_abs B.abs boot_abs_ (da_cons (de_var 0) da_nil)) (da_cons (de_var 1) da_nil)))
      (dss_cons (ds_while PassesOwn.never (dt_cmp op_gt l_B0 (de_var 3) de_int)
      (dss_one (ds_par 2 3 rfl scLawFrac.nd (da_cons (de_var 3) (da_cons (de_op op_mod l_I (de_var 2) (de_var 3)) da_nil)))))
      (dss_one (ds_ret (de_tup (da_cons (de_op op_fdivW l_I (de_var 0) (de_var 2)) (da_cons (de_op op_fdivW l_I (de_var 1) (de_var 2)) da_nil))))))), ?c⟩
  case len =>
    intro ds G h
    simp only [cFraction] at h
    repeat obtain ⟨_, h⟩ := h
    simp [*]
  case c =>
    intro ds G h0
    obtain ⟨t, b, rfl, hb, ht, hbn, h⟩ := h0
    have hh : G (.tup [.int (mkRat t b.toNat).num, .int ((mkRat t b.toNat).den : Int)]) := h
    have hg := gcd_ok (t := t) hb hbn
    rw [← frac_num hb, ← frac_den hb] at hh
    have h00 : 0 ≤ (if t < 0 then -t else t) := by split <;> omega
    simp
    refine ⟨fun m ρ => ∃ a' b' : Int, ρ = [some (.val (.int t)), some (.val (.int b)), some (.val (.int a')), some (.val (.int b'))] ∧ 0 ≤ a' ∧ 0 ≤ b' ∧ m = b'.toNat ∧ Int.gcd a' b' = Int.gcd t b, ⟨_, _, b, rfl, h00, by omega, rfl, by split <;> simp⟩, ?_⟩
    rintro m ρ ⟨a', b', rfl, ha', hb', rfl, hgg⟩
    by_cases c : 0 < b'
    · simp [c]
      refine ⟨_, ?_, hb', Int.emod_nonneg a' (by omega), rfl, by rw [gcd_mod ha' hb', hgg]⟩
      have := Int.emod_lt_of_pos a' (show 0 < b' by omega)
      have := Int.emod_nonneg a' (show b' ≠ 0 by omega)
      omega
    · have c' : b' = 0 := by omega
      subst c'
      have e : (a' : Int) = ((Int.gcd t b : Nat) : Int) := by
        rw [← hgg, Int.gcd_zero_right]
        omega
      simp
      rw [e]
      exact ⟨hg, hg, hh⟩
abbrev sLawCmp : Stmt := topS 83
theorem scLawCmp : FnScope ["_law_one", "_law_other", "_law_left", "_law_right"] ["_law_one", "_law_other"] (defScope sLawCmp) := ⟨rfl, rfl, rfl, by decide +kernel, rfl, by decide +kernel, by decide +kernel⟩
def cmpI (a b : Rat) : Int := (if b < a then 1 else 0) - (if a < b then 1 else 0)
@[simp] def cCmp : Ct := fun ds F => ∃ a b : Rat, ds = [eQ a, eQ b] ∧ Sz a ∧ Sz b ∧ F (.int (cmpI a b))
theorem cmp_le {a b : Rat} : (cmpI a b ≤ 0) ↔ ¬ (b < a) := by
  unfold cmpI
  by_cases h : b < a
  · have : ¬ a < b := Rat.not_lt.mpr (Rat.le_of_lt h)
    simp [h, this]
  · simp only [h, if_false, not_false_eq_true, iff_true]
    split <;> omega
theorem cmp_lt {a b : Rat} : (cmpI a b < 0) ↔ a < b := by
  unfold cmpI
  by_cases h : a < b
  · have : ¬ b < a := Rat.not_lt.mpr (Rat.le_of_lt h)
    simp [h, this]
  · simp only [h, if_false, iff_false]
    split <;> omega
theorem ok__law_cmp (d : Def K mg "_law_cmp" "_law_cmp" sLawCmp ["_law_one", "_law_other"]) (B : Blt mg) : Cal P w K mg base "_law_cmp" 1 ["_law_one", "_law_other"] cCmp := by
  refine cal_of d scLawCmp ?len ⟨_, fun f cdv A outer s H E hr => (dss_cons (ds_set 2 scLawCmp.nd (de_op op_mulW l_I (de_ix ix_any l_ix (de_var 0) de_int) (de_ix ix_any l_ix (de_var 1) de_int)))
      (dss_cons (ds_set 3 scLawCmp.nd (de_op op_mulW l_I (de_ix ix_any l_ix (de_var 1) de_int) (de_ix ix_any l_ix (de_var 0) de_int)))
      (dss_one (ds_ret (de_op op_sub l_I0 (de_callTy call_int1 l_intB B.int boot_int_ (da_cons (de_cmp op_gt l_B0 (de_var 2) (de_var 3)) da_nil)) (de_callTy call_int1 l_intB B.int boot_int_ (da_cons (de_cmp op_lt l_B0 (de_var 2) (de_var 3)) da_nil))))))), ?c⟩
  case len =>
    intro ds G h
    simp only [cCmp] at h
    repeat obtain ⟨_, h⟩ := h
    simp [*]
  case c =>
    intro ds G h0
    obtain ⟨a, b, rfl, ha, hb, h⟩ := h0
    have h1 := sz_mul ha hb
    unfold cmpI at h
    have e1 : (b.num * a.den < a.num * b.den) ↔ b < a := lt_rat
    have e2 : (a.num * b.den < b.num * a.den) ↔ a < b := lt_rat
    simp [h1, e1, e2]
    exact h
abbrev sLawSideSize : Stmt := topS 84
theorem scLawSideSize : FnScope ["_law_side", "_law_ends_here", "_law_one", "_law_bottom", "_law_more"] ["_law_side"] (defScope sLawSideSize) := ⟨rfl, rfl, rfl, by decide +kernel, rfl, by decide +kernel, by decide +kernel⟩
theorem m0_num (a : Rat) : (if 0 < a.num then eQ a else .tup [.int 0, .int 1]) = eQ (m0 a) := by
  unfold m0
  by_cases h : a < 0
  · have : ¬ 0 < a.num := by
      have := (lt_rat (a := a) (b := 0)).mpr h
      simp at this
      omega
    rw [if_neg this, if_pos h]
    rfl
  · rw [if_neg h]
    by_cases h2 : 0 < a.num
    · rw [if_pos h2]
    · have h3 : a = 0 := by
        have h4 := Rat.num_nonneg.mpr (Rat.not_lt.mp h)
        exact Rat.num_eq_zero.mp (by omega)
      rw [if_neg h2, h3]
      rfl
theorem sz_bot {a b : Rat} (ha : Sz a) (hb : Sz b) : ((a.den : Int) * b.den + (b.num * a.den - a.num * b.den)).natAbs < 2 ^ 8900 := by
  obtain ⟨h1, h2⟩ := cross_lt ha hb
  have h3 := natAbs_sub_lt h2 h1
  have h4 : ((a.den : Int) * b.den).natAbs < 2 ^ 2001 := by
    rw [← Int.natCast_mul, Int.natAbs_natCast]
    exact Nat.lt_trans (mul_lt_pow ha.2 hb.2) (Nat.pow_lt_pow_right (by decide) (by decide))
  exact Nat.lt_trans (natAbs_add_lt h4 h3) (Nat.pow_lt_pow_right (by decide) (by decide))
theorem sub_mk (a b : Rat) : mkRat (b.num * a.den - a.num * b.den) (a.den * b.den) = b - a := by
  rw [Rat.sub_def', Nat.mul_comm a.den b.den]
@[simp] def cLSideSize : Ct := fun ds F => ∃ (s : BS), ds = [eBS s] ∧ BSm s ∧ F (eQ s.size)
theorem ok__law_side_size (d : Def K mg "_law_side_size" "_law_side_size" sLawSideSize ["_law_side"]) (B : Blt mg) (c__law_frac : Cal P w K mg base "_law_frac" 1 ["_law_top", "_law_bottom"] cFraction) : Cal P w K mg base "_law_side_size" 2 ["_law_side"] cLSideSize := by
  refine cal_of d scLawSideSize ?len ⟨_, fun f cdv A outer s H E hr => (dss_cons (ds_setComp 1 [("_law_one", 2)] rfl scLawSideSize.nd (di_tup (de_slT (de_var 0) (do_some de_int) do_none)) (fun _ _ _ _ _ => (dg_name 2 scLawSideSize.nd)) (fun _ _ _ _ _ => dts_nil) (fun _ _ _ _ _ => (de_if (dt_cmp op_gt l_B0 (de_ix ix_any l_ix (de_var 2) de_int) de_int) (de_var 2) (de_tup (da_cons de_int (da_cons de_int da_nil))))) (blk_ok (N := ["_law_side", "_law_ends_here", "_law_one", "_law_bottom", "_law_more"]) (sc := defScope sLawSideSize) rfl rfl (by decide +kernel)) (sw_true rfl rfl rfl (by decide +kernel)))
      (dss_cons (ds_if (dt_cmp op_eq l_eq (de_ix ix_any l_ix (de_var 0) de_int) de_str)
      (dss_one (ds_ret (de_ix ix_any l_ix (de_var 1) de_int)))
      dss_nil)
      (dss_cons (ds_set 3 scLawSideSize.nd (de_op op_mulW l_I (de_ix ix_any l_ix (de_ix ix_any l_ix (de_var 1) de_int) de_int) (de_ix ix_any l_ix (de_ix ix_any l_ix (de_var 1) de_int) de_int)))
      (dss_cons (ds_set 4 scLawSideSize.nd (de_op op_sub l_I0 (de_op op_mulW l_I (de_ix ix_any l_ix (de_ix ix_any l_ix (de_var 1) de_int) de_int) (de_ix ix_any l_ix (de_ix ix_any l_ix (de_var 1) de_int) de_int)) (de_op op_mulW l_I (de_ix ix_any l_ix (de_ix ix_any l_ix (de_var 1) de_int) de_int) (de_ix ix_any l_ix (de_ix ix_any l_ix (de_var 1) de_int) de_int))))
      (dss_cons (ds_if (dt_cmp op_eq l_eq (de_ix ix_any l_ix (de_var 0) de_int) de_str)
      (dss_one (ds_ret (de_fn c__law_frac hr (df_cons (de_callB (call_max2 rfl) l_max2 B.max boot_max_ (da_cons de_int (da_cons (de_var 4) da_nil))) (df_cons (de_var 3) df_nil)))))
      dss_nil)
      (dss_one (ds_ret (de_fn c__law_frac hr (df_cons (de_callB (call_min2 rfl) l_min2 B.min boot_min_ (da_cons (de_var 3) (da_cons (de_op op_add l_I0 (de_var 3) (de_var 4)) da_nil))) (df_cons (de_var 3) df_nil)))))))))), ?c⟩
  case len =>
    intro ds G h
    simp only [cLSideSize] at h
    repeat obtain ⟨_, h⟩ := h
    simp [*]
  case c =>
    intro ds G h0
    obtain ⟨⟨w, a, b⟩, rfl, ⟨ha, hb, hw⟩, h⟩ := h0
    have h3 := sm_sz (sm_m0 ha)
    have h4 := sm_sz (sm_m0 hb)
    have hstep : ∀ (x : Rat) (F : D → Prop), F (eQ (m0 x)) → (if decide (x.num > 0) = true then F (eQ x) else F (.tup [.int 0, .int 1])) := fun x F hf => by
      rw [← m0_num] at hf
      by_cases c : 0 < x.num <;> simp [c] at hf ⊢ <;> exact hf
    have hw3 : w = .to ∨ w = .frm ∨ w = .rnd := by cases w <;> simp at hw ⊢
    have hmul := sz_mul h3 h4
    have hden := sz_den h3 h4
    have hcro := sz_cross h4 h3
    have hbot := sz_bot h3 h4
    have hsub := sub_mk (m0 a) (m0 b)
    have hd0 : (m0 a).den * (m0 b).den ≠ 0 := Nat.mul_ne_zero (m0 a).den_nz (m0 b).den_nz
    have hmul2 := sz_mul h4 h3
    rcases hw3 with rfl | hw3
    · simp [eBS, eW, BS.size, DL.cutD, HT.sIx] at h ⊢
      refine compD_map eQ (fun x => eQ (m0 x)) [a] [] ?_ ?_
      · intro x hx F G hf
        simp
        have := hstep x F hf
        simpa using this
      · simp
        exact h
    · generalize hx : m0 a = x at *
      generalize hy : m0 b = y at *
      have hxy : (b.num = b.num) := rfl
      have hmore := mk_pos (y.num * x.den - x.num * y.den) (x.den * y.den) hd0
      rw [hsub] at hmore
      have hmore2 := mk_neg (y.num * x.den - x.num * y.den) (x.den * y.den) hd0
      rw [hsub] at hmore2
      have hadd := mk_add1 (y.num * x.den - x.num * y.den) (x.den * y.den) hd0
      rw [hsub] at hadd
      have hself := mk_self (x.den * y.den) hd0
      have h0s : (0 : Int).natAbs < 2 ^ 8900 := Nat.two_pow_pos _
      have htn := hden.2.2
      have hm1 := hmul.2.1
      have hm2 := hmul.1
      have hm3 := hmul.2.2.1
      have hb1 := hden.1
      have hb2 := hden.2.1
      have hc1 := hcro.2.1
      rcases hw3 with rfl | rfl
      · simp [eBS, eW, BS.size, DL.cutD, HT.sIx] at h ⊢
        refine compD_map eQ (fun x => eQ (m0 x)) [a, b] [] ?_ ?_
        · intro x hx F G hf
          simp
          have := hstep x F hf
          simpa using this
        · simp [hx, hy] at h ⊢
          refine ⟨hm3, hm1, hm2, hb2, ?_⟩
          by_cases cc : x.num * y.den < y.num * x.den
          · have c : 0 < y.num * x.den - x.num * y.den := by omega
            have c2 : ¬ (y - x < 0) := Rat.not_lt.mpr (Rat.le_of_lt (hmore.mpr c))
            simp [m0, c2] at h
            rw [if_pos cc, htn, hsub]
            exact ⟨hc1, hb1, h⟩
          · have c : ¬ 0 < y.num * x.den - x.num * y.den := by omega
            have c2 : m0 (y - x) = 0 := by
              unfold m0
              by_cases c3 : y - x < 0
              · rw [if_pos c3]
              · rw [if_neg c3]
                exact Rat.le_antisymm (Rat.not_lt.mp fun z => c (hmore.mp z)) (Rat.not_lt.mp c3)
            rw [c2] at h
            rw [if_neg cc, htn]
            exact ⟨h0s, hb1, by simpa using h⟩
      · simp [eBS, eW, BS.size, DL.cutD, HT.sIx] at h ⊢
        refine compD_map eQ (fun x => eQ (m0 x)) [a, b] [] ?_ ?_
        · intro x hx F G hf
          simp
          have := hstep x F hf
          simpa using this
        · simp [hx, hy] at h ⊢
          refine ⟨hm3, hm1, hm2, hb2, ?_⟩
          by_cases c : (x.den : Int) * y.den + (y.num * x.den - x.num * y.den) < x.den * y.den
          · have c2 : ¬ (0 < y - x) := fun z => by
              have := hmore.mp z
              omega
            rw [if_neg c2] at h
            rw [if_pos c, htn]
            rw [show ((x.den : Int) * y.den) = ((x.den * y.den : Nat) : Int) from rfl] at *
            rw [hadd]
            exact ⟨hbot, hb1, h⟩
          · have c2 : (if 0 < y - x then 1 else 1 + (y - x)) = 1 := by
              by_cases c3 : 0 < y - x
              · rw [if_pos c3]
              · rw [if_neg c3]
                have : y - x = 0 := Rat.le_antisymm (Rat.not_lt.mp c3) (Rat.not_lt.mp fun z => by
                  have := hmore2.mp z
                  omega)
                rw [this, Rat.add_zero]
            rw [c2] at h
            rw [if_neg c, htn]
            rw [show ((x.den : Int) * y.den) = ((x.den * y.den : Nat) : Int) from rfl] at *
            rw [hself]
            exact ⟨hb1, hb1, h⟩
end
end EP

set_option Elab.async false
set_option linter.all false
set_option maxRecDepth 100000
set_option maxHeartbeats 4000000
namespace EP
open PySem PySem.Spec PyProof.Rows L2 DL
def CS.loB (c : CS) : BS := if c.w = .to then ⟨.to, c.r0.1, c.r0.1⟩ else ⟨c.w, c.r0.2, c.r1.1⟩
def CS.hiB (c : CS) : BS := if c.w = .to then ⟨.to, c.r0.2, c.r0.2⟩ else ⟨c.w, c.r0.1, c.r1.2⟩
theorem rnd_size (x y : Rat) : (if 0 < y - x then (1 : Rat) else 1 + (y - x)) = if 1 < (1 - x) + y then 1 else (1 - x) + y := by
  by_cases h : 0 < y - x
  · rw [if_pos h]
    by_cases h2 : 1 < (1 - x) + y
    · rw [if_pos h2]
    · grind
  · rw [if_neg h]
    by_cases h2 : 1 < (1 - x) + y
    · grind
    · rw [if_neg h2]
      grind
theorem loB_size {c : CS} (h : c.w ≠ .un) : c.loB.size = c.lo := by
  obtain ⟨w, r0, r1⟩ := c
  cases w <;> simp [CS.loB, CS.lo, BS.size, between] at h ⊢
  exact rnd_size _ _
theorem hiB_size {c : CS} (h : c.w ≠ .un) : c.hiB.size = c.hi := by
  obtain ⟨w, r0, r1⟩ := c
  cases w <;> simp [CS.hiB, CS.hi, BS.size, between] at h ⊢
  exact rnd_size _ _
theorem loB_sm {c : CS} (h : CSm c) (hw : c.w ≠ .un) : BSm c.loB := by
  unfold CS.loB
  split
  · exact ⟨h.1, h.1, by simp⟩
  · exact ⟨h.2.1, h.2.2.1, hw⟩
theorem hiB_sm {c : CS} (h : CSm c) (hw : c.w ≠ .un) : BSm c.hiB := by
  unfold CS.hiB
  split
  · exact ⟨h.2.1, h.2.1, by simp⟩
  · exact ⟨h.1, h.2.2.2, hw⟩
def kindI (c : CS) (x : Rat) : Int := if c.sure x = true then 2 else if c.maybe x = true then 1 else 0
theorem cmp_pos {a b : Rat} : (0 < cmpI a b) ↔ b < a := by
  have := @cmp_le a b
  constructor
  · intro h
    exact Classical.byContradiction fun z => by have := this.mpr z; omega
  · intro h
    exact Classical.byContradiction fun z => this.mp (by omega) h
theorem cmp_nonneg {a b : Rat} : (0 ≤ cmpI a b) ↔ ¬ (a < b) := by
  have := @cmp_lt a b
  constructor
  · intro h z
    have := this.mpr z
    omega
  · intro h
    exact Classical.byContradiction fun z => h (this.mp (by omega))
section
variable {P : Program} {w : World} {K : PySem.W.Frag} {mg : Str → Option Value} {base : Heap}
abbrev sLawSideTold : Stmt := topS 85
theorem scLawSideTold : FnScope ["_law_x", "_law_word", "_law_ranges", "_law_low", "_law_high", "_law_sure", "_law_near", "_law_first_here", "_law_last"] ["_law_x", "_law_word", "_law_ranges"] (defScope sLawSideTold) := ⟨rfl, rfl, rfl, by decide +kernel, rfl, by decide +kernel, by decide +kernel⟩
@[simp] def cSideTold : Ct := fun ds F => ∃ (x : Rat) (c : CS), ds = [eQ x, eW c.w, .lst (eRs c)] ∧ Sm 50 x ∧ CSm c ∧ c.w ≠ .un ∧ F (.int (kindI c x))
theorem ok__law_side_told (d : Def K mg "_law_side_told" "_law_side_told" sLawSideTold ["_law_x", "_law_word", "_law_ranges"]) (B : Blt mg) (c__law_cmp : Cal P w K mg base "_law_cmp" 1 ["_law_one", "_law_other"] cCmp) : Cal P w K mg base "_law_side_told" 2 ["_law_x", "_law_word", "_law_ranges"] cSideTold := by
  refine cal_of d scLawSideTold ?len ⟨_, fun f cdv A outer s H E hr => (dss_cons (ds_asg (de_ix ix_any l_ix (de_var 2) de_int) (dg_tup (n := 2) rfl (dgs_cons (dg_name 3 scLawSideTold.nd) (dgs_cons (dg_name 4 scLawSideTold.nd) dgs_nil))))
      (dss_cons (ds_if (dt_cmp op_eq l_eq (de_var 1) de_str)
      (dss_one (ds_par 5 6 rfl scLawSideTold.nd (da_cons (de_cmp op_le l_B0 (de_fn c__law_cmp hr (df_cons (de_var 0) (df_cons (de_var 3) df_nil))) de_int) (da_cons (de_cmp op_lt l_B0 (de_fn c__law_cmp hr (df_cons (de_var 0) (df_cons (de_var 4) df_nil))) de_int) da_nil))))
      (dss_cons (ds_asg (de_ix ix_any l_ix (de_var 2) de_int) (dg_tup (n := 2) rfl (dgs_cons (dg_name 7 scLawSideTold.nd) (dgs_cons (dg_name 8 scLawSideTold.nd) dgs_nil))))
      (dss_cons (ds_set 5 scLawSideTold.nd (de_lst (da_cons (de_cmp op_le l_B0 (de_fn c__law_cmp hr (df_cons (de_var 4) (df_cons (de_var 0) df_nil))) de_int) (da_cons (de_cmp op_le l_B0 (de_fn c__law_cmp hr (df_cons (de_var 0) (df_cons (de_var 7) df_nil))) de_int) da_nil))))
      (dss_cons (ds_set 6 scLawSideTold.nd (de_lst (da_cons (de_cmp op_lt l_B0 (de_fn c__law_cmp hr (df_cons (de_var 3) (df_cons (de_var 0) df_nil))) de_int) (da_cons (de_cmp op_lt l_B0 (de_fn c__law_cmp hr (df_cons (de_var 0) (df_cons (de_var 8) df_nil))) de_int) da_nil))))
      (dss_cons (ds_set 5 scLawSideTold.nd (de_if (dt_cmp op_eq l_eq (de_var 1) de_str) (de_callB (cr_all rfl) l_all B.all boot_all_ (da_cons (de_var 5) da_nil)) (de_callB (cr_any rfl) l_any B.any boot_any_ (da_cons (de_var 5) da_nil))))
      (dss_one (ds_set 6 scLawSideTold.nd (de_if (dt_cmp op_eq l_eq (de_var 1) de_str) (de_callB (cr_all rfl) l_all B.all boot_all_ (da_cons (de_var 6) da_nil)) (de_callB (cr_any rfl) l_any B.any boot_any_ (da_cons (de_var 6) da_nil))))))))))
      (dss_one (ds_ret (de_if (dt_val (de_var 5)) de_int (de_callTy call_int1 l_intB B.int boot_int_ (da_cons (de_var 6) da_nil))))))), ?c⟩
  case len =>
    intro ds G h
    simp only [cSideTold] at h
    repeat obtain ⟨_, h⟩ := h
    simp [*]
  case c =>
    intro ds G h0
    obtain ⟨x, ⟨w, r0, r1⟩, rfl, h1, ⟨h2, h3, h4, h5⟩, hw, h⟩ := h0
    have h1 := sm_sz h1
    have h2 := sm_sz h2
    have h3 := sm_sz h3
    have h4 := sm_sz h4
    have h5 := sm_sz h5
    cases w <;> simp [eW, eRs, h1, h2, h3, h4, h5] at h2 h3 h4 h5 hw h ⊢
    · simp [kindI, CS.sure, CS.maybe] at h
      simp [cmp_le, cmp_lt, cmp_pos, cmp_nonneg]
      by_cases c1 : r0.1 < x <;> by_cases c2 : x < r0.2 <;> simp [c1, c2] at h ⊢ <;> exact h
    all_goals
      refine ⟨[_, _], rfl, [_, _], rfl, ?_⟩
      simp [kindI, CS.sure, CS.maybe] at h
      simp [cmp_le, cmp_lt, cmp_pos, cmp_nonneg]
      by_cases c1 : x < r0.2 <;> by_cases c2 : r1.1 < x <;> by_cases c3 : r0.1 < x <;> by_cases c4 : x < r1.2 <;> simp [c1, c2, c3, c4] at h ⊢ <;> exact h
abbrev sLawEnds : Stmt := topS 86
theorem scLawEnds : FnScope ["_law_word", "_law_ranges", "_law_low", "_law_high", "_law_first_here", "_law_last"] ["_law_word", "_law_ranges"] (defScope sLawEnds) := ⟨rfl, rfl, rfl, by decide +kernel, rfl, by decide +kernel, by decide +kernel⟩
@[simp] def cEnds : Ct := fun ds F => ∃ (c : CS), ds = [eW c.w, .lst (eRs c)] ∧ CSm c ∧ c.w ≠ .un ∧ F (.tup [eBS c.loB, eBS c.hiB])
theorem ok__law_ends (d : Def K mg "_law_ends" "_law_ends" sLawEnds ["_law_word", "_law_ranges"]) : Cal P w K mg base "_law_ends" 1 ["_law_word", "_law_ranges"] cEnds := by
  refine cal_of d scLawEnds ?len ⟨_, fun f cdv A outer s H E hr => (dss_cons (ds_asg (de_ix ix_any l_ix (de_var 1) de_int) (dg_tup (n := 2) rfl (dgs_cons (dg_name 2 scLawEnds.nd) (dgs_cons (dg_name 3 scLawEnds.nd) dgs_nil))))
      (dss_cons (ds_if (dt_cmp op_eq l_eq (de_var 0) de_str)
      (dss_one (ds_ret (de_tup (da_cons (de_tup (da_cons (de_var 0) (da_cons (de_var 2) da_nil))) (da_cons (de_tup (da_cons (de_var 0) (da_cons (de_var 3) da_nil))) da_nil)))))
      dss_nil)
      (dss_cons (ds_asg (de_ix ix_any l_ix (de_var 1) de_int) (dg_tup (n := 2) rfl (dgs_cons (dg_name 4 scLawEnds.nd) (dgs_cons (dg_name 5 scLawEnds.nd) dgs_nil))))
      (dss_one (ds_ret (de_tup (da_cons (de_tup (da_cons (de_var 0) (da_cons (de_var 3) (da_cons (de_var 4) da_nil)))) (da_cons (de_tup (da_cons (de_var 0) (da_cons (de_var 2) (da_cons (de_var 5) da_nil)))) da_nil)))))))), ?c⟩
  case len =>
    intro ds G h
    simp only [cEnds] at h
    repeat obtain ⟨_, h⟩ := h
    simp [*]
  case c =>
    intro ds G h0
    obtain ⟨⟨w, r0, r1⟩, rfl, ⟨h2, h3, h4, h5⟩, hw, h⟩ := h0
    cases w <;> simp [eW, eRs, CS.loB, CS.hiB, eBS] at hw h ⊢ <;> exact h
abbrev sLawProduct : Stmt := topS 87
theorem scLawProduct : FnScope ["_law_one", "_law_other"] ["_law_one", "_law_other"] (defScope sLawProduct) := ⟨rfl, rfl, rfl, by decide +kernel, rfl, by decide +kernel, by decide +kernel⟩
theorem ok__law_product (d : Def K mg "_law_product" "_law_product" sLawProduct ["_law_one", "_law_other"]) (c__law_frac : Cal P w K mg base "_law_frac" 1 ["_law_top", "_law_bottom"] cFraction) : Cal P w K mg base "_law_product" 2 ["_law_one", "_law_other"] cTimes := by
  refine cal_of d scLawProduct ?len ⟨_, fun f cdv A outer s H E hr => (dss_one (ds_ret (de_fn c__law_frac hr (df_cons (de_op op_mulW l_I (de_ix ix_any l_ix (de_var 0) de_int) (de_ix ix_any l_ix (de_var 1) de_int)) (df_cons (de_op op_mulW l_I (de_ix ix_any l_ix (de_var 0) de_int) (de_ix ix_any l_ix (de_var 1) de_int)) df_nil))))), ?c⟩
  case len =>
    intro ds G h
    simp only [cTimes] at h
    repeat obtain ⟨_, h⟩ := h
    simp [*]
  case c =>
    intro ds G h0
    obtain ⟨a, b, rfl, ha, hb, h⟩ := h0
    have h1 := sz_mul ha hb
    have h2 := sz_den ha hb
    have h3 := sz_cross ha hb
    rw [Rat.mul_def'] at h
    simp [h1, h2, h3, h]
end
def CellG (cell : Cell) : Prop := ∀ c ∈ cell, ∀ x, c.sure x = true → c.maybe x = true
theorem kind_min (p : Pt) (cell : Cell) (hg : CellG cell) (m : Int) (hm : m ∈ (p.zip cell).map fun z => kindI z.2 z.1) (hl : ∀ y ∈ (p.zip cell).map fun z => kindI z.2 z.1, m ≤ y) :
    (m = 2 ↔ allS cell p = true) ∧ (m = 1 ↔ (!allS cell p && allM cell p) = true) := by
  obtain ⟨z0, hz0, rfl⟩ := List.mem_map.mp hm
  have hk : ∀ z : Rat × CS, kindI z.2 z.1 = 2 ∧ z.2.sure z.1 = true ∨ kindI z.2 z.1 = 1 ∧ z.2.sure z.1 = false ∧ z.2.maybe z.1 = true ∨ kindI z.2 z.1 = 0 ∧ z.2.sure z.1 = false ∧ z.2.maybe z.1 = false := fun z => by
    unfold kindI
    cases z.2.sure z.1 <;> cases z.2.maybe z.1 <;> simp
  have hl' : ∀ z ∈ p.zip cell, kindI z0.2 z0.1 ≤ kindI z.2 z.1 := fun z hz => hl _ (List.mem_map.mpr ⟨z, hz, rfl⟩)
  have hgz : ∀ z ∈ p.zip cell, z.2.sure z.1 = true → z.2.maybe z.1 = true := fun z hz => hg _ (List.of_mem_zip (a := z.1) (b := z.2) hz).2 _
  have eS : allS cell p = true ↔ ∀ z ∈ p.zip cell, z.2.sure z.1 = true := by unfold allS; rw [List.all_eq_true]
  have eM : allM cell p = true ↔ ∀ z ∈ p.zip cell, z.2.maybe z.1 = true := by unfold allM; rw [List.all_eq_true]
  have k2 : kindI z0.2 z0.1 = 2 ↔ allS cell p = true := by
    rw [eS]
    refine ⟨fun h z hz => ?_, fun h => ?_⟩
    · have := hl' z hz
      rcases hk z with h1 | h1 | h1
      · exact h1.2
      · omega
      · omega
    · have := h z0 hz0
      rcases hk z0 with h1 | h1 | h1
      · exact h1.1
      · rw [h1.2.1] at this; cases this
      · rw [h1.2.1] at this; cases this
  refine ⟨k2, ?_⟩
  rw [Bool.and_eq_true, Bool.not_eq_true', eM]
  refine ⟨fun h => ⟨?_, fun z hz => ?_⟩, fun h => ?_⟩
  · rw [← Bool.not_eq_true]
    intro z
    have := k2.mpr z
    omega
  · have := hl' z hz
    rcases hk z with h1 | h1 | h1
    · exact hgz z hz h1.2
    · exact h1.2.2
    · omega
  · have h2 : ¬ kindI z0.2 z0.1 = 2 := fun z => by
      have := k2.mp z
      rw [h.1] at this
      cases this
    have := h.2 z0 hz0
    rcases hk z0 with h1 | h1 | h1
    · exact absurd h1.1 h2
    · exact h1.1
    · rw [h1.2.2] at this; cases this
section
variable {P : Program} {w : World} {K : PySem.W.Frag} {mg : Str → Option Value} {base : Heap}
abbrev sLawCellTold : Stmt := topS 88
theorem scLawCellTold : FnScope ["_law_pts", "_law_cell", "_law_sure", "_law_near", "_law_point", "_law_kinds", "_law_x", "_law_side", "_law_least", "_law_most", "_law_word", "_law_ranges", "_law_small_here", "_law_great"] ["_law_pts", "_law_cell"] (defScope sLawCellTold) := ⟨rfl, rfl, rfl, by decide +kernel, rfl, by decide +kernel, by decide +kernel⟩
@[simp] def cLCellTold : Ct := fun ds F => ∃ (pts : List Pt) (cell : Cell), ds = [ePts pts, lCell cell] ∧ CellOk cell ∧ CellG cell ∧ (∀ p ∈ pts, PtOk cell.length p) ∧ F (.tup [.int (cntS pts cell), .int (cntN pts cell), eQ (vLo cell), eQ (vHi cell)])
theorem ok__law_cell_told (d : Def K mg "_law_cell_told" "_law_cell_told" sLawCellTold ["_law_pts", "_law_cell"]) (B : Blt mg) (c__law_ends : Cal P w K mg base "_law_ends" 1 ["_law_word", "_law_ranges"] cEnds) (c__law_product : Cal P w K mg base "_law_product" 2 ["_law_one", "_law_other"] cTimes) (c__law_side_told : Cal P w K mg base "_law_side_told" 2 ["_law_x", "_law_word", "_law_ranges"] cSideTold) (c__law_side_size : Cal P w K mg base "_law_side_size" 2 ["_law_side"] cLSideSize) : Cal P w K mg base "_law_cell_told" 3 ["_law_pts", "_law_cell"] cLCellTold := by
  refine cal_of d scLawCellTold ?len ⟨_, fun f cdv A outer s H E hr => (dss_cons (ds_asg (de_tup (da_cons de_int (da_cons de_int da_nil))) (dg_tup (n := 2) rfl (dgs_cons (dg_name 2 scLawCellTold.nd) (dgs_cons (dg_name 3 scLawCellTold.nd) dgs_nil))))
      (dss_cons (ds_for PassesOwn.never rfl (di_tup (de_var 0)) (dg_name 4 scLawCellTold.nd)
      (dss_cons (ds_setComp 5 [("_law_x", 6), ("_law_side", 7)] rfl scLawCellTold.nd (di_zip false true B.zip (da_cons (de_var 4) (da_cons (de_var 1) da_nil))) (fun _ _ _ _ _ => (dg_tup (n := 2) rfl (dgs_cons (dg_name 6 scLawCellTold.nd) (dgs_cons (dg_name 7 scLawCellTold.nd) dgs_nil)))) (fun _ _ _ _ _ => dts_nil) (fun _ _ _ _ _ => (de_fn c__law_side_told hr (df_cons (de_var 6) (df_cons (de_ix ix_any l_ix (de_var 7) de_int) (df_cons (de_ix ix_any l_ix (de_var 7) de_int) df_nil))))) (blk_ok (N := ["_law_pts", "_law_cell", "_law_sure", "_law_near", "_law_point", "_law_kinds", "_law_x", "_law_side", "_law_least", "_law_most", "_law_word", "_law_ranges", "_law_small_here", "_law_great"]) (sc := defScope sLawCellTold) rfl rfl (by decide +kernel)) (sw_true rfl rfl rfl (by decide +kernel)))
      (dss_cons (ds_set 2 scLawCellTold.nd (de_op op_add l_I0 (de_var 2) (de_callTy call_int1 l_intB B.int boot_int_ (da_cons (de_cmp op_eq l_eq (de_callB (cr_min rfl) l_min B.min boot_min_ (da_cons (de_var 5) da_nil)) de_int) da_nil))))
      (dss_one (ds_set 3 scLawCellTold.nd (de_op op_add l_I0 (de_var 3) (de_callTy call_int1 l_intB B.int boot_int_ (da_cons (de_cmp op_eq l_eq (de_callB (cr_min rfl) l_min B.min boot_min_ (da_cons (de_var 5) da_nil)) de_int) da_nil))))))))
      (dss_cons (ds_asg (de_tup (da_cons (de_tup (da_cons de_int (da_cons de_int da_nil))) (da_cons (de_tup (da_cons de_int (da_cons de_int da_nil))) da_nil))) (dg_tup (n := 2) rfl (dgs_cons (dg_name 8 scLawCellTold.nd) (dgs_cons (dg_name 9 scLawCellTold.nd) dgs_nil))))
      (dss_cons (ds_for PassesOwn.never rfl (di_list (de_var 1)) (dg_tup (n := 2) rfl (dgs_cons (dg_name 10 scLawCellTold.nd) (dgs_cons (dg_name 11 scLawCellTold.nd) dgs_nil)))
      (dss_cons (ds_asg (de_fn c__law_ends hr (df_cons (de_var 10) (df_cons (de_var 11) df_nil))) (dg_tup (n := 2) rfl (dgs_cons (dg_name 12 scLawCellTold.nd) (dgs_cons (dg_name 13 scLawCellTold.nd) dgs_nil))))
      (dss_cons (ds_set 8 scLawCellTold.nd (de_fn c__law_product hr (df_cons (de_var 8) (df_cons (de_fn c__law_side_size hr (df_cons (de_var 12) df_nil)) df_nil))))
      (dss_one (ds_set 9 scLawCellTold.nd (de_fn c__law_product hr (df_cons (de_var 9) (df_cons (de_fn c__law_side_size hr (df_cons (de_var 13) df_nil)) df_nil))))))))
      (dss_one (ds_ret (de_tup (da_cons (de_var 2) (da_cons (de_var 3) (da_cons (de_var 8) (da_cons (de_var 9) da_nil))))))))))), ?c⟩
  case len =>
    intro ds G h
    simp only [cLCellTold] at h
    repeat obtain ⟨_, h⟩ := h
    simp [*]
  case c =>
    intro ds G h0
    obtain ⟨pts, cell, rfl, hc, hg, hp, h⟩ := h0
    have hlen := hc.2
    refine ⟨_, rfl, rfl, _, _, rfl, _, _, rfl, rfl, _, rfl, _, rfl, ?_⟩
    refine forD_inv ePt (fun ps ρ => ∃ (done : List Pt) (o4 o5 o6 o7 : Option S), done ++ ps = pts ∧ ρ = [some (.val (ePts pts)), some (.val (lCell cell)), some (.val (.int (cntS done cell))), some (.val (.int (cntN done cell))), o4, o5, o6, o7, none, none, none, none, none, none]) ?_ ?_ pts _ ⟨[], none, none, none, none, rfl, rfl⟩
    · rintro p ps ρ N hN ⟨dn, o4, o5, o6, o7, e, rfl⟩
      have hm : p ∈ pts := by rw [← e]; simp
      have hpp := hp p hm
      have e1 : cntS (dn ++ [p]) cell = cntS dn cell + if allS cell p = true then 1 else 0 := by simp [cntS, List.countP_append, List.countP_cons]
      have e2 : cntN (dn ++ [p]) cell = cntN dn cell + if (!allS cell p && allM cell p) = true then 1 else 0 := by simp [cntN, List.countP_append, List.countP_cons]
      have hn := fun a b (o5 o6 o7 : Option S) (ha : a = (cntS (dn ++ [p]) cell : Int)) (hb : b = (cntN (dn ++ [p]) cell : Int)) => hN [some (.val (ePts pts)), some (.val (lCell cell)), some (.val (.int a)), some (.val (.int b)), some (.val (ePt p)), o5, o6, o7, none, none, none, none, none, none] ⟨dn ++ [p], some (.val (ePt p)), o5, o6, o7, by simpa using e, by subst ha hb; rfl⟩
      have hzl : (p.zip cell).length ≤ 100000 := by
        rw [List.length_zip]
        omega
      have hzp : 0 < (p.zip cell).length := by
        rw [List.length_zip, hpp.1]
        omega
      have hx : ∀ z ∈ p.zip cell, Sm 50 z.1 ∧ CSm z.2 ∧ z.2.w ≠ .un := fun z hz => by
        have h1 := List.of_mem_zip (a := z.1) (b := z.2) hz
        exact ⟨(hpp.2 _ h1.1).2.2, hc.1 _ h1.2⟩
      refine ⟨_, rfl, _, rfl, _, _, _, _, rfl, rfl, rfl, ?_⟩
      rw [zipD_map eQ lCS]
      refine ⟨by rw [List.length_map]; exact hzl, compD_map _ (fun z => .int (kindI z.2 z.1)) _ _ ?_ ?_⟩
      · intro z hz F G hf
        have := hx z hz
        simp [lCS]
        exact ⟨z.2, rfl, rfl, this.1, this.2.1, this.2.2, hf⟩
      · rw [List.nil_append, show (fun z : Rat × CS => D.int (kindI z.2 z.1)) = D.int ∘ (fun z : Rat × CS => kindI z.2 z.1) from rfl, ← List.map_map]
        refine ⟨_, rfl, _, rfl, _, rfl, by rw [List.length_map]; exact hzp, fun m hm1 hm2 => ?_⟩
        obtain ⟨k1, k2⟩ := kind_min p cell hg m hm1 hm2
        simp
        refine ⟨(p.zip cell).map fun z => kindI z.2 z.1, by simp, by rw [List.length_map]; exact hzp, fun m' hm1' hm2' => ?_⟩
        obtain ⟨k1', k2'⟩ := kind_min p cell hg m' hm1' hm2'
        refine hn _ _ _ _ _ ?_ ?_
        · rw [e1]
          by_cases c : allS cell p = true
          · rw [if_pos c, if_pos (k1.mpr c)]
            rfl
          · rw [if_neg c, if_neg (fun z => c (k1.mp z))]
            rfl
        · rw [e2]
          by_cases c : (!allS cell p && allM cell p) = true
          · rw [if_pos c, if_pos (k2'.mpr c)]
            rfl
          · rw [if_neg c, if_neg (fun z => c (k2'.mp z))]
            rfl
    · rintro ρ ⟨dn, o4, o5, o6, o7, e, rfl⟩
      rw [List.append_nil] at e
      subst e
      refine ⟨_, rfl, rfl, _, _, rfl, _, _, rfl, rfl, _, rfl, _, rfl, ?_⟩
      refine forD_inv lCS (fun cs ρ => ∃ (pre : Cell) (o10 o11 o12 o13 : Option S), pre ++ cs = cell ∧ ρ = [some (.val (ePts dn)), some (.val (lCell cell)), some (.val (.int (cntS dn cell))), some (.val (.int (cntN dn cell))), o4, o5, o6, o7, some (.val (eQ (vLo pre))), some (.val (eQ (vHi pre))), o10, o11, o12, o13]) ?_ ?_ cell _ ⟨[], none, none, none, none, rfl, rfl⟩
      · rintro c cs ρ N hN ⟨pre, o10, o11, o12, o13, e, rfl⟩
        have hm : c ∈ cell := by rw [← e]; simp
        have hl : pre.length + cs.length + 1 ≤ 2 := by
          have := congrArg List.length e
          simp at this
          omega
        have h1 := hc.1 c hm
        have h2 := sm_vLo (cell := pre) (fun x hx => (hc.1 x (by rw [← e]; simp [hx])).1) (by omega)
        have h3 := sm_sz h2.1
        have h4 := sm_sz h2.2
        have h5 := sm_sz (sm_lo h1.1)
        have h6 := sm_sz (sm_hi h1.1)
        have e1 : vLo (pre ++ [c]) = vLo pre * c.lo := by simp [vLo]
        have e2 : vHi (pre ++ [c]) = vHi pre * c.hi := by simp [vHi]
        have hn := fun o10 o11 o12 o13 => hN [some (.val (ePts dn)), some (.val (lCell cell)), some (.val (.int (cntS dn cell))), some (.val (.int (cntN dn cell))), o4, o5, o6, o7, some (.val (eQ (vLo pre * c.lo))), some (.val (eQ (vHi pre * c.hi))), o10, o11, o12, o13] ⟨pre ++ [c], o10, o11, o12, o13, by simpa using e, by rw [e1, e2]⟩
        simp [lCS, h3, h4]
        refine ⟨c, rfl, rfl, h1.1, h1.2, ?_⟩
        refine ⟨c.loB, rfl, loB_sm h1.1 h1.2, by rw [loB_size h1.2]; exact h5, c.hiB, rfl, hiB_sm h1.1 h1.2, by rw [hiB_size h1.2]; exact h6, ?_⟩
        rw [loB_size h1.2, hiB_size h1.2]
        exact hn _ _ _ _
      · rintro ρ ⟨pre, o10, o11, o12, o13, e, rfl⟩
        rw [List.append_nil] at e
        subst e
        simp
        exact h
abbrev sLawFirst : Stmt := topS 89
theorem scLawFirst : FnScope ["_law_s", "_law_family", "_law_word", "_law_ranges"] ["_law_s", "_law_family"] (defScope sLawFirst) := ⟨rfl, rfl, rfl, by decide +kernel, rfl, by decide +kernel, by decide +kernel⟩
@[simp] def cLFirst : Ct := fun ds F => ∃ (n : Nat) (f : Fam), ds = [.int (n : Int), eF f] ∧ (n = 1 ∨ n = 2) ∧ F (lCell (first n f))
theorem ok__law_first (d : Def K mg "_law_first" "_law_first" sLawFirst ["_law_s", "_law_family"]) (B : Blt mg) : Cal P w K mg base "_law_first" 1 ["_law_s", "_law_family"] cLFirst := by
  refine cal_of d scLawFirst ?len ⟨_, fun f cdv A outer s H E hr => (dss_cons (ds_set 2 scLawFirst.nd (de_dictIx [(.inr "corner", .str "to"), (.inr "inner", .str "from"), (.inr "round", .non)] (hu_of hr) (pps_cons pe_str pe_str (pps_cons pe_str pe_str (pps_cons pe_str pe_non pps_nil))) (de_var 1)))
      (dss_cons (ds_set 3 scLawFirst.nd (de_op op_rep l_repL (de_lst (da_cons (de_tup (da_cons (de_tup (da_cons (de_un un_neg l_neg de_int) (da_cons de_int da_nil))) (da_cons (de_tup (da_cons de_int (da_cons de_int da_nil))) da_nil))) da_nil)) (de_op op_add l_I0 de_int (de_callTy call_int1 l_intB B.int boot_int_ (da_cons (de_cmp op_ne l_ne (de_var 1) de_str) da_nil)))))
      (dss_one (ds_ret (de_op op_rep l_repL (de_lst (da_cons (de_tup (da_cons (de_var 2) (da_cons (de_var 3) da_nil))) da_nil)) (de_var 0)))))), ?c⟩
  case len =>
    intro ds G h
    simp only [cLFirst] at h
    repeat obtain ⟨_, h⟩ := h
    simp [*]
  case c =>
    intro ds G h0
    obtain ⟨n, f, rfl, hn, h⟩ := h0
    rcases hn with rfl | rfl <;> cases f
    all_goals
      refine ⟨_, rfl, _, _, _, rfl, rfl, fun _ _ => by first | exact .str _ | exact .non, ?_⟩
      simp [eF]
      exact h
end
end EP

set_option Elab.async false
set_option linter.all false
set_option maxRecDepth 100000
set_option maxHeartbeats 4000000
namespace EP
open PySem PySem.Spec PyProof.Rows L2 DL
def CellR (cell : Cell) : Prop := ∀ c ∈ cell, c.r0.1 < c.r0.2 ∧ c.r1.1 < c.r1.2
theorem CellR.g {cell : Cell} (h : CellR cell) : CellG cell := fun c hc x hs => by
  obtain ⟨h1, h2⟩ := h c hc
  obtain ⟨w, r0, r1⟩ := c
  cases w <;> simp [CS.sure, CS.maybe] at hs h1 h2 ⊢ <;> grind
theorem CellR.low {cell : Cell} {s : Nat} {q : Bool} {a : Rat} (h : CellR cell) (hs : s < cell.length) (ha : ((getC cell s).rng q).1 < a) : CellR (cell.modify s (CS.low q a)) := fun c hc => by
  rcases mem_modify hc with hc | ⟨y, hy, e, rfl⟩
  · exact h c hc
  · rw [getC_of e] at ha
    cases q
    · exact ⟨ha, (h y hy).2⟩
    · exact ⟨(h y hy).1, ha⟩
theorem CellR.high {cell : Cell} {s : Nat} {q : Bool} {a : Rat} (h : CellR cell) (hs : s < cell.length) (ha : a < ((getC cell s).rng q).2) : CellR (cell.modify s (CS.high q a)) := fun c hc => by
  rcases mem_modify hc with hc | ⟨y, hy, e, rfl⟩
  · exact h c hc
  · rw [getC_of e] at ha
    cases q
    · exact ⟨ha, (h y hy).2⟩
    · exact ⟨(h y hy).1, ha⟩
theorem CellR.word {cell : Cell} {s : Nat} {w : Wd} (h : CellR cell) : CellR (cell.modify s (CS.word w)) := fun c hc => by
  rcases mem_modify hc with hc | ⟨y, hy, e, rfl⟩
  · exact h c hc
  · exact h y hy
theorem sm_leaf {pts : List Pt} {cell : Cell} {m : Nat} (hc : CellOk cell) (hp : PtsOk m pts) : Sm 310 (overN pts cell) ∧ Sm 310 (lackN pts cell) := by
  have g1 := sm_vLo (fun c hc' => (hc.1 c hc').1) (show cell.length ≤ 2 by have := hc.2; omega)
  have hle := cnt_le pts cell
  have f1 := sm_frac (k := cntS pts cell + cntN pts cell) hle hp.2.1 hp.2.2
  have f2 := sm_frac (k := cntS pts cell) (n := pts.length) (by omega) hp.2.1 hp.2.2
  exact ⟨Sm.mono (Sm.sub f1 g1.1) (by decide), Sm.mono (Sm.sub g1.2 f2) (by decide)⟩
theorem sm_mx {n : Nat} {a b : Rat} (ha : Sm n a) (hb : Sm n b) : Sm n (mx a b) := by
  unfold mx
  split
  · exact hb
  · exact ha
theorem sm_need {f : Fam} {pts : List Pt} {m : Nat} (hp : PtsOk m pts) : ∀ (T : Tr) (cell : Cell), CellF f cell → Wf f cell T → Sm 310 (need pts cell T)
  | .leaf, cell, hc, hw => sm_mx (sm_leaf (hc.ok hw) hp).1 (sm_leaf (hc.ok hw) hp).2
  | .cut s q a P Q, cell, hc, ⟨_, _, h3, _, _, h6, h7⟩ => sm_mx (sm_need hp P _ (hc.low h3) h6) (sm_need hp Q _ (hc.high h3) h7)
  | .ways s P Q, cell, hc, ⟨_, h2, _, h6, h7⟩ => sm_mx (sm_need hp P _ (hc.word (by rw [h2]; simp) (by simp)) h6) (sm_need hp Q _ (hc.word (by rw [h2]; simp) (by simp)) h7)
section
variable {P : Program} {w : World} {K : PySem.W.Frag} {mg : Str → Option Value} {base : Heap}
abbrev sLawBehind : Stmt := topS 90
theorem scLawBehind : FnScope ["_law_cell", "_law_node", "_law_word", "_law_ranges", "_law_found", "_law_k", "_law_told", "_law_low", "_law_high", "_law_one"] ["_law_cell", "_law_node"] (defScope sLawBehind) := ⟨rfl, rfl, rfl, by decide +kernel, rfl, by decide +kernel, by decide +kernel⟩
@[simp] def cLBehind : Ct := fun ds F => ∃ (cell : Cell) (T : Tr), ds = [lCell cell, eTr T] ∧ KidOk cell T ∧ cell.length ≤ 2 ∧ F (.lst ((kidsT cell T).map lCell))
theorem lCell_set (cell : Cell) (s : Nat) (c : CS) (h : s < cell.length) : D.lst (DL.cutD (cell.map lCS) none (some (s : Int)) ++ (lCS c :: DL.cutD (cell.map lCS) (some ((s : Int) + 1)) none)) = lCell (cell.set s c) := by
  rw [show ∀ a b : List D, ∀ x, a ++ x :: b = a ++ ([x] ++ b) from fun _ _ _ => rfl, cut_set lCS cell s c h]
  rfl
theorem ok__law_behind (d : Def K mg "_law_behind" "_law_behind" sLawBehind ["_law_cell", "_law_node"]) (B : Blt mg) : Cal P w K mg base "_law_behind" 1 ["_law_cell", "_law_node"] cLBehind := by
  refine cal_of d scLawBehind ?len ⟨_, fun f cdv A outer s H E hr => (dss_cons (ds_asg (de_ix ix_any l_ix (de_var 0) (de_ix ix_any l_ix (de_var 1) de_int)) (dg_tup (n := 2) rfl (dgs_cons (dg_name 2 scLawBehind.nd) (dgs_cons (dg_name 3 scLawBehind.nd) dgs_nil))))
      (dss_cons (ds_own 4 scLawBehind.nd da_nil)
      (dss_cons (ds_for PassesOwn.never rfl (di_range B.range de_int) (dg_name 5 scLawBehind.nd)
      (dss_cons (ds_set 6 scLawBehind.nd (de_tup (da_cons (de_ix ix_any l_ix (de_lst (da_cons de_str (da_cons de_str da_nil))) (de_var 5)) (da_cons (de_var 3) da_nil))))
      (dss_cons (ds_if (dt_cmp op_eq l_eq (de_ix ix_any l_ix (de_var 1) de_int) de_str)
      (dss_cons (ds_asg (de_ix ix_any l_ix (de_var 3) (de_ix ix_any l_ix (de_var 1) de_int)) (dg_tup (n := 2) rfl (dgs_cons (dg_name 7 scLawBehind.nd) (dgs_cons (dg_name 8 scLawBehind.nd) dgs_nil))))
      (dss_cons (ds_set 9 scLawBehind.nd (de_ix ix_any l_ix (de_lst (da_cons (de_tup (da_cons (de_var 7) (da_cons (de_ix ix_any l_ix (de_var 1) de_int) da_nil))) (da_cons (de_tup (da_cons (de_ix ix_any l_ix (de_var 1) de_int) (da_cons (de_var 8) da_nil))) da_nil))) (de_var 5)))
      (dss_one (ds_set 6 scLawBehind.nd (de_tup (da_cons (de_var 2) (da_cons (de_op op_cat l_catL (de_op op_cat l_catL (de_slL (de_var 3) do_none (do_some (de_ix ix_any l_ix (de_var 1) de_int))) (de_lst (da_cons (de_var 9) da_nil))) (de_slL (de_var 3) (do_some (de_op op_add l_I0 (de_ix ix_any l_ix (de_var 1) de_int) de_int)) do_none)) da_nil)))))))
      dss_nil)
      (dss_one (ds_append 4 (de_op op_cat l_catL (de_op op_cat l_catL (de_slL (de_var 0) do_none (do_some (de_ix ix_any l_ix (de_var 1) de_int))) (de_lst (da_cons (de_var 6) da_nil))) (de_slL (de_var 0) (do_some (de_op op_add l_I0 (de_ix ix_any l_ix (de_var 1) de_int) de_int)) do_none)))))))
      (dss_freeze 4 (dss_one (ds_ret (de_var 4))))))), ?c⟩
  case len =>
    intro ds G h
    simp only [cLBehind] at h
    repeat obtain ⟨_, h⟩ := h
    simp [*]
  case c =>
    intro ds G h0
    obtain ⟨cell, T, rfl, hk, hl, h⟩ := h0
    have l1 : ∀ (l : List D) x, (DL.cutD l none x).length ≤ l.length := fun l x => by unfold DL.cutD; simp only [List.length_take, List.length_drop, HT.sIx_none]; omega
    have l2 : ∀ (l : List D) x, (DL.cutD l x none).length ≤ l.length := fun l x => by unfold DL.cutD; simp only [List.length_take, List.length_drop, HT.sIx_none]; omega
    have lr : ∀ c, (eRs c).length ≤ 2 := fun c => by unfold eRs; split <;> simp
    have lm : (cell.map lCS).length ≤ 2 := by simpa using hl
    cases T with
    | leaf => exact hk.elim
    | ways s P Q =>
      obtain ⟨h1, h2⟩ := hk
      simp only [kidsT, List.map_cons, List.map_nil] at h
      rw [modify_set cell s _ _ (get_getC h1), modify_set cell s _ _ (get_getC h1), ← lCell_set _ _ _ h1, ← lCell_set _ _ _ h1] at h
      have e1 : eRs (getC cell s) = eRs ((getC cell s).word .frm) := by simp [CS.word, eRs, h2]
      have e2 : eRs (getC cell s) = eRs ((getC cell s).word .rnd) := by simp [CS.word, eRs, h2]
      have g1 := l1 (cell.map lCS) (some (s : Int))
      have g2 := l2 (cell.map lCS) (some ((s : Int) + 1))
      simp [eTr, lCell, get_map h1, lCS, rangeD, List.range, List.range.loop, ForD]
      simp only [lCell, lCS] at h
      rw [← e1, ← e2] at h
      simp [CS.word, eW] at h
      exact ⟨by omega, by omega, by omega, by omega, h⟩
    | cut s q a P Q =>
      obtain ⟨h1, h2⟩ := hk
      simp only [kidsT, List.map_cons, List.map_nil] at h
      rw [modify_set cell s _ _ (get_getC h1), modify_set cell s _ _ (get_getC h1), ← lCell_set _ _ _ h1, ← lCell_set _ _ _ h1] at h
      have e1 := eCS_low q a _ h2
      have e2 := eCS_high q a _ h2
      have e3 : ixD (.lst (eRs (getC cell s))) (.int (if q = true then 1 else 0)) = some (eR ((getC cell s).rng q)) := eRs_ix q _ h2
      have g1 := l1 (cell.map lCS) (some (s : Int))
      have g2 := l2 (cell.map lCS) (some ((s : Int) + 1))
      have g3 := l1 (eRs (getC cell s)) (some (if q = true then 1 else 0))
      have g4 := l2 (eRs (getC cell s)) (some ((if q = true then 1 else 0) + 1))
      have g5 := lr (getC cell s)
      simp [eTr, lCell, get_map h1, lCS, rangeD, List.range, List.range.loop, ForD, eBit, e3]
      simp [lCell, lCS, ← e1, ← e2, w_low, w_high] at h
      exact ⟨by omega, by omega, by omega, by omega, by omega, by omega, by omega, by omega, h⟩
abbrev sLawNeeds : Stmt := topS 91
theorem scLawNeeds : FnScope ["_law_pts", "_law_cell", "_law_sure", "_law_near", "_law_least", "_law_most", "_law_over_it"] ["_law_pts", "_law_cell"] (defScope sLawNeeds) := ⟨rfl, rfl, rfl, by decide +kernel, rfl, by decide +kernel, by decide +kernel⟩
@[simp] def cLNeeds : Ct := fun ds F => ∃ (pts : List Pt) (cell : Cell), ds = [ePts pts, lCell cell] ∧ CellOk cell ∧ CellG cell ∧ PtsOk cell.length pts ∧ F (.tup [eQ (overN pts cell), eQ (lackN pts cell)])
theorem ok__law_needs (d : Def K mg "_law_needs" "_law_needs" sLawNeeds ["_law_pts", "_law_cell"]) (B : Blt mg) (c__law_cell_told : Cal P w K mg base "_law_cell_told" 3 ["_law_pts", "_law_cell"] cLCellTold) (c__law_frac : Cal P w K mg base "_law_frac" 1 ["_law_top", "_law_bottom"] cFraction) : Cal P w K mg base "_law_needs" 4 ["_law_pts", "_law_cell"] cLNeeds := by
  refine cal_of d scLawNeeds ?len ⟨_, fun f cdv A outer s H E hr => (dss_cons (ds_asg (de_fn c__law_cell_told hr (df_cons (de_var 0) (df_cons (de_var 1) df_nil))) (dg_tup (n := 4) rfl (dgs_cons (dg_name 2 scLawNeeds.nd) (dgs_cons (dg_name 3 scLawNeeds.nd) (dgs_cons (dg_name 4 scLawNeeds.nd) (dgs_cons (dg_name 5 scLawNeeds.nd) dgs_nil))))))
      (dss_cons (ds_set 6 scLawNeeds.nd (de_fn c__law_frac hr (df_cons (de_op op_sub l_I0 (de_op op_mulW l_I (de_op op_add l_I0 (de_var 2) (de_var 3)) (de_ix ix_any l_ix (de_var 4) de_int)) (de_op op_mulW l_I (de_callB call_len_seq l_len B.len PySem.boot_len (da_cons (de_var 0) da_nil)) (de_ix ix_any l_ix (de_var 4) de_int))) (df_cons (de_op op_mulW l_I (de_callB call_len_seq l_len B.len PySem.boot_len (da_cons (de_var 0) da_nil)) (de_ix ix_any l_ix (de_var 4) de_int)) df_nil))))
      (dss_one (ds_ret (de_tup (da_cons (de_var 6) (da_cons (de_fn c__law_frac hr (df_cons (de_op op_sub l_I0 (de_op op_mulW l_I (de_callB call_len_seq l_len B.len PySem.boot_len (da_cons (de_var 0) da_nil)) (de_ix ix_any l_ix (de_var 5) de_int)) (de_op op_mulW l_I (de_var 2) (de_ix ix_any l_ix (de_var 5) de_int))) (df_cons (de_op op_mulW l_I (de_callB call_len_seq l_len B.len PySem.boot_len (da_cons (de_var 0) da_nil)) (de_ix ix_any l_ix (de_var 5) de_int)) df_nil))) da_nil))))))), ?c⟩
  case len =>
    intro ds G h
    simp only [cLNeeds] at h
    repeat obtain ⟨_, h⟩ := h
    simp [*]
  case c =>
    intro ds G h0
    obtain ⟨pts, cell, rfl, hc, hg, hp, h⟩ := h0
    have g := sm_vLo (fun c hc' => (hc.1 c hc').1) (show cell.length ≤ 2 by have := hc.2; omega)
    have hle := cnt_le pts cell
    have hn1 := hp.2.1
    have hn2 := hp.2.2
    have hn0 : pts.length ≠ 0 := by omega
    have l16 : ∀ i : Int, i.natAbs ≤ 16 → i.natAbs < 2 ^ 5 := fun i hi => Nat.lt_of_le_of_lt hi (by decide)
    have dn : ∀ q : Rat, Sm 300 q → ((q.den : Int)).natAbs < 2 ^ 300 := fun q hq => by rw [Int.natAbs_natCast]; exact hq.2
    have m1 : ∀ (i : Int) (q : Rat), i.natAbs ≤ 16 → Sm 300 q → CMulW i q.den ∧ CMulW i q.num := fun i q hi hq => ⟨mul_ok (l16 i hi) (dn q hq) (by decide) (by decide) (by decide), mul_ok (l16 i hi) hq.1 (by decide) (by decide) (by decide)⟩
    have b1 : ∀ (i : Int) (q : Rat), i.natAbs ≤ 16 → Sm 300 q → (i * q.den).natAbs < 2 ^ 305 ∧ (i * q.num).natAbs < 2 ^ 305 := fun i q hi hq => ⟨natAbs_mul_lt (l16 i hi) (dn q hq), natAbs_mul_lt (l16 i hi) hq.1⟩
    have b2 : ∀ i j : Int, i.natAbs < 2 ^ 305 → j.natAbs < 2 ^ 305 → (i - j).natAbs < 2 ^ 8900 := fun i j hi hj => Nat.lt_trans (natAbs_sub_lt hi hj) (Nat.pow_lt_pow_right (by decide) (by decide))
    have b3 : ∀ i : Int, i.natAbs < 2 ^ 305 → i.natAbs < 2 ^ 8900 := fun i hi => Nat.lt_trans hi (Nat.pow_lt_pow_right (by decide) (by decide))
    have pz : ∀ q : Rat, (0 : Int) < pts.length * q.den := fun q => Int.mul_pos (by omega) (by have := q.den_pos; omega)
    have tn : ∀ q : Rat, ((pts.length : Int) * q.den).toNat = pts.length * q.den := fun q => by rw [← Int.natCast_mul]; rfl
    have x1 := m1 ((cntS pts cell : Int) + cntN pts cell) (vLo cell) (by omega) g.1
    have x2 := m1 (pts.length : Int) (vLo cell) (by omega) g.1
    have x3 := m1 (pts.length : Int) (vHi cell) (by omega) g.2
    have x4 := m1 (cntS pts cell : Int) (vHi cell) (by omega) g.2
    have y1 := b1 ((cntS pts cell : Int) + cntN pts cell) (vLo cell) (by omega) g.1
    have y2 := b1 (pts.length : Int) (vLo cell) (by omega) g.1
    have y3 := b1 (pts.length : Int) (vHi cell) (by omega) g.2
    have y4 := b1 (cntS pts cell : Int) (vHi cell) (by omega) g.2
    have z1 := b2 _ _ y1.1 y2.2
    have z2 := b2 _ _ y3.2 y4.1
    have z3 := b3 _ y2.1
    have z4 := b3 _ y3.1
    have n1 := need_law ((cntS pts cell : Int) + cntN pts cell) pts.length hn0 (vLo cell)
    have n2 := need_law2 (cntS pts cell : Int) pts.length hn0 (vHi cell)
    simp [-cLCellTold]
    refine ⟨pts, cell, rfl, hc, hg, hp.1, ?_⟩
    simp [ePts]
    refine ⟨x1.1, x2.2, x2.1, pz _, z1, z3, ?_⟩
    rw [tn, n1]
    refine ⟨x3.2, x4.1, x3.1, pz _, z2, z4, ?_⟩
    rw [tn, n2]
    exact h
abbrev sLawNeed : Stmt := topS 92
theorem scLawNeed : FnScope ["_law_pts", "_law_cell", "_law_node", "_law_both", "_law_inner", "_law_piece"] ["_law_pts", "_law_cell", "_law_node"] (defScope sLawNeed) := ⟨rfl, rfl, rfl, by decide +kernel, rfl, by decide +kernel, by decide +kernel⟩
@[simp] def cLNeed (k : Nat) : Ct := fun ds F => ∃ (pts : List Pt) (cell : Cell) (f : Fam) (T : Tr), ds = [ePts pts, lCell cell, eTr T] ∧ CellF f cell ∧ CellR cell ∧ Wf f cell T ∧ PtsOk cell.length pts ∧ ht T < k ∧ ht T ≤ 50 ∧ F (eQ (need pts cell T))
theorem ok__law_need_step (n : Nat) (d : Def K mg "_law_need" "_law_need" sLawNeed ["_law_pts", "_law_cell", "_law_node"]) (B : Blt mg) (c__law_needs : Cal P w K mg base "_law_needs" 4 ["_law_pts", "_law_cell"] cLNeeds) (c__law_behind : Cal P w K mg base "_law_behind" 1 ["_law_cell", "_law_node"] cLBehind) (c__law_cmp : Cal P w K mg base "_law_cmp" 1 ["_law_one", "_law_other"] cCmp) (c__law_need : Cal P w K mg base "_law_need" (4 + n) ["_law_pts", "_law_cell", "_law_node"] (cLNeed n)) : Cal P w K mg base "_law_need" (4 + n + 1) ["_law_pts", "_law_cell", "_law_node"] (cLNeed (n + 1)) := by
  refine cal_of d scLawNeed ?len ⟨_, fun f cdv A outer s H E hr => (dss_cons (ds_if (dt_cmp (op_eqD (hr.units)) l_eqD (de_var 2) (de_tup da_nil))
      (dss_cons (ds_set 3 scLawNeed.nd (de_fn c__law_needs hr (hjk := by omega) (df_cons (de_var 0) (df_cons (de_var 1) df_nil))))
      (dss_one (ds_ret (de_ix ix_any l_ix (de_var 3) (de_callTy call_int1 l_intB B.int boot_int_ (da_cons (de_cmp op_lt l_B0 (de_fn c__law_cmp hr (hjk := by omega) (df_cons (de_ix ix_any l_ix (de_var 3) de_int) (df_cons (de_ix ix_any l_ix (de_var 3) de_int) df_nil))) de_int) da_nil))))))
      dss_nil)
      (dss_cons (ds_setComp 3 [("_law_inner", 4), ("_law_piece", 5)] rfl scLawNeed.nd (di_zip true false B.zip (da_cons (de_fn c__law_behind hr (hjk := by omega) (df_cons (de_var 1) (df_cons (de_var 2) df_nil))) (da_cons (de_slT (de_var 2) (do_some (de_un un_neg l_neg de_int)) do_none) da_nil))) (fun _ _ _ _ _ => (dg_tup (n := 2) rfl (dgs_cons (dg_name 4 scLawNeed.nd) (dgs_cons (dg_name 5 scLawNeed.nd) dgs_nil)))) (fun _ _ _ _ _ => dts_nil) (fun _ _ _ _ _ => (de_fn c__law_need hr (hjk := by omega) (df_cons (de_var 0) (df_cons (de_var 4) (df_cons (de_var 5) df_nil))))) (blk_ok (N := ["_law_pts", "_law_cell", "_law_node", "_law_both", "_law_inner", "_law_piece"]) (sc := defScope sLawNeed) rfl rfl (by decide +kernel)) (sw_true rfl rfl rfl (by decide +kernel)))
      (dss_one (ds_ret (de_ix ix_any l_ix (de_var 3) (de_callTy call_int1 l_intB B.int boot_int_ (da_cons (de_cmp op_lt l_B0 (de_fn c__law_cmp hr (hjk := by omega) (df_cons (de_ix ix_any l_ix (de_var 3) de_int) (df_cons (de_ix ix_any l_ix (de_var 3) de_int) df_nil))) de_int) da_nil))))))), ?c⟩
  case len =>
    intro ds G h
    simp only [cLNeed] at h
    repeat obtain ⟨_, h⟩ := h
    simp [*]
  case c =>
    intro ds G h0
    obtain ⟨pts, cell, f, T, rfl, hc, hr, hw, hp, hk, hh, h⟩ := h0
    have p1 := plain_eTr T 64 (by omega)
    have q1 := eqv_leaf T
    have hlen : cell.length ≤ 2 := by have := hc.2; omega
    have hmx : ∀ a b : Rat, Sm 310 a → Sm 310 b → ∀ F : D → Prop, F (eQ (mx a b)) → ∀ (K : List D) , K = [eQ a, eQ b] → ∃ d, ixD (.tup K) (.int (if cmpI a b < 0 then 1 else 0)) = some d ∧ F d := fun a b ha hb F hf K e => by
      subst e
      unfold mx at hf
      by_cases c : a < b
      · rw [if_pos c] at hf
        rw [if_pos (cmp_lt.mpr c)]
        exact ⟨_, by simp, hf⟩
      · rw [if_neg c] at hf
        rw [if_neg (fun z => c (cmp_lt.mp z))]
        exact ⟨_, by simp, hf⟩
    cases T with
    | leaf =>
      have ho := hc.ok hw
      obtain ⟨s1, s2⟩ := sm_leaf ho hp
      simp [-cLNeeds, p1, q1, isLeaf]
      refine ⟨pts, cell, rfl, ho, hr.g, hp, ?_⟩
      simp [sm_sz s1, sm_sz s2]
      exact hmx _ _ s1 s2 _ h _ rfl
    | cut s q a P Q =>
      have hbe : ∀ F : D → Prop, F (.lst [lCell (cell.modify s (CS.low q a)), lCell (cell.modify s (CS.high q a))]) → cLBehind [lCell cell, eTr (.cut s q a P Q)] F := fun F hf => by
        obtain ⟨w1, w2, w3, w4, w5, w6, w7⟩ := hw
        refine ⟨cell, .cut s q a P Q, rfl, ⟨w1, fun e => ?_⟩, hlen, hf⟩
        cases q
        · rfl
        · exact absurd ((hc.1 _ (getC_mem w1)).2.mp e) (w2 rfl)
      obtain ⟨w1, w2, w3, w4, w5, w6, w7⟩ := hw
      simp only [ht] at hk hh
      have s1 := sm_need hp P _ (hc.low w3) w6
      have s2 := sm_need hp Q _ (hc.high w3) w7
      simp [-cLNeeds, -cLBehind, -cLNeed, p1, q1, isLeaf]
      refine hbe _ ⟨_, rfl, _, rfl, ?_⟩
      simp [-cLNeeds, -cLBehind, -cLNeed, zipD, DL.cutD, HT.sIx, CompD]
      refine ⟨pts, _, f, P, rfl, hc.low w3, hr.low w1 w4, w6, by simpa using hp, by omega, by omega, pts, _, f, Q, rfl, hc.high w3, hr.high w1 w5, w7, by simpa using hp, by omega, by omega, ?_⟩
      simp [sm_sz s1, sm_sz s2]
      exact hmx _ _ s1 s2 _ h _ rfl
    | ways s P Q =>
      have hbe : ∀ F : D → Prop, F (.lst [lCell (cell.modify s (CS.word .frm)), lCell (cell.modify s (CS.word .rnd))]) → cLBehind [lCell cell, eTr (.ways s P Q)] F := fun F hf => by
        obtain ⟨w1, w2, w3, w6, w7⟩ := hw
        exact ⟨cell, .ways s P Q, rfl, ⟨w1, by rw [w3]; simp⟩, hlen, hf⟩
      obtain ⟨w1, w2, w3, w6, w7⟩ := hw
      simp only [ht] at hk hh
      have hcf := hc.word (s := s) (w := .frm) (by rw [w2]; simp) (by simp)
      have hcr := hc.word (s := s) (w := .rnd) (by rw [w2]; simp) (by simp)
      have s1 := sm_need hp P _ hcf w6
      have s2 := sm_need hp Q _ hcr w7
      simp [-cLNeeds, -cLBehind, -cLNeed, p1, q1, isLeaf]
      refine hbe _ ⟨_, rfl, _, rfl, ?_⟩
      simp [-cLNeeds, -cLBehind, -cLNeed, zipD, DL.cutD, HT.sIx, CompD]
      refine ⟨pts, _, f, P, rfl, hcf, hr.word, w6, by simpa using hp, by omega, by omega, pts, _, f, Q, rfl, hcr, hr.word, w7, by simpa using hp, by omega, by omega, ?_⟩
      simp [sm_sz s1, sm_sz s2]
      exact hmx _ _ s1 s2 _ h _ rfl
theorem ok__law_need (d : Def K mg "_law_need" "_law_need" sLawNeed ["_law_pts", "_law_cell", "_law_node"]) (B : Blt mg) (c__law_needs : Cal P w K mg base "_law_needs" 4 ["_law_pts", "_law_cell"] cLNeeds) (c__law_behind : Cal P w K mg base "_law_behind" 1 ["_law_cell", "_law_node"] cLBehind) (c__law_cmp : Cal P w K mg base "_law_cmp" 1 ["_law_one", "_law_other"] cCmp) : ∀ n, Cal P w K mg base "_law_need" (4 + n) ["_law_pts", "_law_cell", "_law_node"] (cLNeed n)
  | 0 => ((cal_false d).mono (Nat.zero_le _)).imp (fun ds F h => by
    simp [cLNeed] at h)
  | n + 1 => ok__law_need_step n d B c__law_needs c__law_behind c__law_cmp (ok__law_need d B c__law_needs c__law_behind c__law_cmp n)
end
end EP

set_option Elab.async false
set_option linter.all false
set_option maxRecDepth 100000
set_option maxHeartbeats 4000000
namespace EP
open PySem PySem.Spec PyProof.Rows L2 DL
/-- all that a paper needs so that it holds -/
structure HoldOk (f : Fam) (n : Nat) (pts : List Pt) (num : Rat) (T : Tr) : Prop where
  n12 : n = 1 ∨ n = 2
  hp : PtsOk n pts
  sm : Sm 900 num
  wf : Wf f (first n f) T
  hd : need pts (first n f) T ≤ num
  hh : ht T ≤ 36
  miss : n = 1 ∨ f = .corner → ∀ u, MissOf f n pts u → u ≤ num
abbrev End := Rat × Rat × Rat
def eEnd (e : End) : D := .tup [eQ e.1, eQ e.2.1, eQ e.2.2]
def InOk (q : Rat) : Prop := 0 < q ∧ q < 1 ∧ Sm 50 q
def EndOk (e : End) : Prop := InOk e.1 ∧ InOk e.2.1 ∧ InOk e.2.2
def eCut (z : Nat × Bool) : D := .tup [.int (z.1 : Int), eBit z.2]
def dropP (o : Nat) (p : Pt) : Pt := p.take o ++ p.drop (o + 1)
def nUn (cell : Cell) : Nat := cell.countP fun c => decide (c.w = .un)
section
variable {P : Program} {w : World} {K : PySem.W.Frag} {mg : Str → Option Value} {base : Heap}
abbrev sLawHolds : Stmt := topS 97
theorem scLawHolds : FnScope ["_law_pts", "_law_family", "_law_number", "_law_paper"] ["_law_pts", "_law_family", "_law_number", "_law_paper"] (defScope sLawHolds) := ⟨rfl, rfl, rfl, by decide +kernel, rfl, by decide +kernel, by decide +kernel⟩
@[simp] def cHolds : Ct := fun ds F => ∃ (f : Fam) (n : Nat) (pts : List Pt) (num : Rat) (T : Tr), ds = [ePts pts, eF f, eQ num, eTr T] ∧ HoldOk f n pts num T ∧ F (.bl true)
theorem ok__law_holds (d : Def K mg "_law_holds" "_law_holds" sLawHolds ["_law_pts", "_law_family", "_law_number", "_law_paper"]) (B : Blt mg) (c_lets_even : Cal P w K mg base "lets_even" 46 ["points", "family", "number", "thing"] cLets) (c__law_cmp : Cal P w K mg base "_law_cmp" 1 ["_law_one", "_law_other"] cCmp) (c_unevenness : Cal P w K mg base "unevenness" 9 ["points", "family"] cUneven) : Cal P w K mg base "_law_holds" 47 ["_law_pts", "_law_family", "_law_number", "_law_paper"] cHolds := by
  refine cal_of d scLawHolds ?len ⟨_, fun f cdv A outer s H E hr => (dss_cons (ds_if (dt_cmp op_notBl l_notB (de_fn c_lets_even hr (df_cons (de_var 0) (df_cons (de_var 1) (df_cons (de_var 2) (df_cons (de_var 3) df_nil))))) de_bl)
      (dss_one (ds_ret de_bl))
      dss_nil)
      (dss_cons (ds_if (DW.dt (dw_and (dt_cmp op_gt l_B0 (de_callB call_len_seq l_len B.len PySem.boot_len (da_cons (de_ix ix_any l_ix (de_var 0) de_int) da_nil)) de_int) (dw_and1 (dt_cmp op_ne l_ne (de_var 1) de_str))))
      (dss_one (ds_ret de_bl))
      dss_nil)
      (dss_one (ds_ret (de_cmp op_le l_B0 (de_fn c__law_cmp hr (df_cons (de_fn c_unevenness hr (df_cons (de_var 0) (df_cons (de_var 1) df_nil))) (df_cons (de_var 2) df_nil))) de_int))))), ?c⟩
  case len =>
    intro ds G h
    simp only [cHolds] at h
    repeat obtain ⟨_, h⟩ := h
    simp [*]
  case c =>
    intro ds G h0
    obtain ⟨f, n, pts, num, T, rfl, ⟨hn, hp, hs, hw, hd, hh, hm⟩, h⟩ := h0
    have h0 : ∃ p ps, pts = p :: ps ∧ p.length = n := by
      match pts, hp with
      | [], hp => exact absurd hp.2.1 (by simp)
      | p :: pts, hp => exact ⟨p, pts, rfl, (hp.1 p (by simp)).1⟩
    obtain ⟨p0, ps, e0, hpl⟩ := h0
    have hlt : ∀ F : D → Prop, F (.bl true) → cLets [ePts pts, eF f, eQ num, eTr T] F := fun F hf => ⟨pts, f, n, num, T, rfl, hn, hp, hs, hw, hd, hh, hf⟩
    have hun : (n = 1 ∨ f = .corner) → ∀ F : D → Prop, (∀ u, u ≤ num → Sm 310 u → F (eQ u)) → cUneven [ePts pts, eF f] F := fun hc F hf => by
      refine ⟨pts, n, f, rfl, hp, ?_, fun u hu => hf u (hm hc u hu) (sm_miss hu hp (by omega))⟩
      rcases hn with h | h
      · exact .inl h
      · exact .inr ⟨h, hc.resolve_left (by omega)⟩
    have hlen : (p0.length : Int) = n := by omega
    have hfin : ∀ u, u ≤ num → Sm 310 u → cCmp [eQ u, eQ num] fun x => ∃ i, x = .int i ∧ G (.bl (decide (i ≤ 0))) := fun u hu hsu => ⟨u, num, rfl, sm_sz hsu, sm_sz hs, _, rfl, by
      rw [decide_eq_true (cmp_le.mpr (Rat.not_lt.mpr hu))]
      exact h⟩
    subst e0
    rcases hn with rfl | rfl <;> cases f <;> simp [-cLets, -cUneven, eF, -cCmp] <;> refine hlt _ ?_ <;> simp [-cLets, -cUneven, -cCmp, ePts, ePt, hpl]
    · refine hun (by simp) _ fun u hu hsu => ?_
      simpa using hfin u hu hsu
    · refine hun (by simp) _ fun u hu hsu => ?_
      simpa using hfin u hu hsu
    · refine hun (by simp) _ fun u hu hsu => ?_
      simpa using hfin u hu hsu
    · refine hun (by simp) _ fun u hu hsu => ?_
      simpa using hfin u hu hsu
    · exact h
    · exact h
theorem getC_low {cell : Cell} {s t : Nat} {q r : Bool} {a : Rat} (hs : s < cell.length) (ht : t < cell.length) (h : (t, r) ≠ (s, q)) : (getC (cell.modify s (CS.low q a)) t).rng r = (getC cell t).rng r := by
  unfold getC
  rw [List.getElem?_modify]
  by_cases e : s = t
  · subst e
    rw [List.getElem?_eq_getElem hs]
    have : r ≠ q := fun e => h (by rw [e])
    rw [show ((fun a_1 => if s = s then CS.low q a a_1 else a_1) <$> some cell[s]) = some (CS.low q a cell[s]) by simp]
    cases q <;> cases r <;> first | (exact absurd rfl this) | rfl
  · simp [e]
theorem getC_high {cell : Cell} {s t : Nat} {q r : Bool} {a : Rat} (hs : s < cell.length) (ht : t < cell.length) (h : (t, r) ≠ (s, q)) : (getC (cell.modify s (CS.high q a)) t).rng r = (getC cell t).rng r := by
  unfold getC
  rw [List.getElem?_modify]
  by_cases e : s = t
  · subst e
    rw [List.getElem?_eq_getElem hs]
    have : r ≠ q := fun e => h (by rw [e])
    rw [show ((fun a_1 => if s = s then CS.high q a a_1 else a_1) <$> some cell[s]) = some (CS.high q a cell[s]) by simp]
    cases q <;> cases r <;> first | (exact absurd rfl this) | rfl
  · simp [e]
theorem getC_word {cell : Cell} {s t : Nat} {r : Bool} {w : Wd} (ht : t < cell.length) : (getC (cell.modify s (CS.word w)) t).rng r = (getC cell t).rng r := by
  unfold getC
  rw [List.getElem?_modify]
  by_cases e : s = t
  · subst e
    rw [List.getElem?_eq_getElem ht]
    rw [show ((fun a_1 => if s = s then CS.word w a_1 else a_1) <$> some cell[s]) = some (CS.word w cell[s]) by simp]
    cases r <;> rfl
  · simp [e]
theorem words_cut (cell : Cell) (s : Nat) (f : CS → CS) (hf : ∀ c, (f c).w = c.w) : (cell.modify s f).map (fun c => eW c.w) = cell.map fun c => eW c.w := by
  apply List.ext_getElem?
  intro i
  rw [List.getElem?_map, List.getElem?_map, List.getElem?_modify]
  by_cases e : s = i <;> cases cell[i]? <;> simp [e, hf]
theorem nUn_cut (cell : Cell) (s : Nat) (f : CS → CS) (hf : ∀ c, (f c).w = c.w) : nUn (cell.modify s f) = nUn cell := by
  unfold nUn
  induction cell generalizing s with
  | nil => simp
  | cons c cell ih =>
    cases s with
    | zero => simp [List.countP_cons, hf]
    | succ s => simp [List.countP_cons, ih]
theorem nUn_word (cell : Cell) (s : Nat) (w : Wd) (hw : w ≠ .un) (hs : s < cell.length) (h : (getC cell s).w = .un) : nUn (cell.modify s (CS.word w)) + 1 = nUn cell := by
  unfold nUn
  induction cell generalizing s with
  | nil => simp at hs
  | cons c cell ih =>
    cases s with
    | zero =>
      have h' : c.w = .un := h
      simp [List.countP_cons, h', CS.word, hw]
    | succ s =>
      have := ih s (by simpa using hs) h
      simp [List.countP_cons] at this ⊢
      omega
theorem words_set (cell : Cell) (s : Nat) (w : Wd) : (cell.modify s (CS.word w)).map (fun c => eW c.w) = (cell.map fun c => eW c.w).set s (eW w) := by
  apply List.ext_getElem?
  intro i
  rw [List.getElem?_map, List.getElem?_modify, List.getElem?_set, List.getElem?_map, List.length_map]
  by_cases e : s = i
  · subst e
    cases q : cell[s]? with
    | none =>
      have : cell.length ≤ s := List.getElem?_eq_none_iff.mp q
      simp [show ¬ s < cell.length by omega]
    | some y =>
      have : s < cell.length := (List.getElem?_eq_some_iff.mp q).1
      simp [this, CS.word]
  · simp [e]
end
end EP

set_option Elab.async false
set_option linter.all false
set_option maxRecDepth 100000
set_option maxHeartbeats 4000000
namespace EP
open PySem PySem.Spec PyProof.Rows L2 DL
def Fits (ws : List Wd) (cuts : List (Nat × Bool)) (cell : Cell) : Prop := cell.map (fun c => c.w) = ws ∧ ∀ z ∈ cuts, (getC cell z.1).rng z.2 = wh
def cUn (ws : List Wd) : Nat := ws.countP fun w => decide (w = .un)
theorem fits_w {ws : List Wd} {cuts : List (Nat × Bool)} {cell : Cell} (h : Fits ws cuts cell) {j : Nat} (hj : j < cell.length) {w : Wd} (e : ws[j]? = some w) : (getC cell j).w = w := by
  rw [← h.1, List.getElem?_map, get_getC hj] at e
  exact Option.some.inj e
theorem fits_len {ws : List Wd} {cuts : List (Nat × Bool)} {cell : Cell} (h : Fits ws cuts cell) : cell.length = ws.length := by
  rw [← h.1, List.length_map]
theorem fits_word {ws : List Wd} {cuts : List (Nat × Bool)} {cell : Cell} (h : Fits ws cuts cell) (hc : ∀ z ∈ cuts, z.1 < ws.length) (j : Nat) (w : Wd) : Fits (ws.set j w) cuts (cell.modify j (CS.word w)) := by
  have hl := fits_len h
  refine ⟨?_, fun z hz => ?_⟩
  · rw [← h.1]
    apply List.ext_getElem?
    intro i
    rw [List.getElem?_map, List.getElem?_modify, List.getElem?_set, List.getElem?_map, List.length_map]
    by_cases e : j = i
    · subst e
      cases q : cell[j]? with
      | none =>
        have : cell.length ≤ j := List.getElem?_eq_none_iff.mp q
        simp [show ¬ j < cell.length by omega]
      | some y =>
        have : j < cell.length := (List.getElem?_eq_some_iff.mp q).1
        simp [this, CS.word]
    · simp [e]
  · rw [getC_word (by have := hc z hz; omega)]
    exact h.2 z hz
theorem fits_cut {ws : List Wd} {cuts : List (Nat × Bool)} {cell : Cell} {z : Nat × Bool} {a : Rat} (h : Fits ws (z :: cuts) cell) (hn : z ∉ cuts) (hc : ∀ y ∈ z :: cuts, y.1 < ws.length) : Fits ws cuts (cell.modify z.1 (CS.low z.2 a)) ∧ Fits ws cuts (cell.modify z.1 (CS.high z.2 a)) := by
  have hl := fits_len h
  have hz := hc z (by simp)
  have hw : ∀ f : CS → CS, (∀ c, (f c).w = c.w) → (cell.modify z.1 f).map (fun c => c.w) = ws := fun f hf => by
    rw [← h.1]
    apply List.ext_getElem?
    intro i
    rw [List.getElem?_map, List.getElem?_map, List.getElem?_modify]
    by_cases e : z.1 = i <;> cases cell[i]? <;> simp [e, hf]
  refine ⟨⟨hw _ (w_low _ _), fun y hy => ?_⟩, ⟨hw _ (w_high _ _), fun y hy => ?_⟩⟩
  · rw [getC_low (by omega) (by have := hc y (by simp [hy]); omega) (fun e => hn (by rw [← show y = z from e]; exact hy))]
    exact h.2 y (by simp [hy])
  · rw [getC_high (by omega) (by have := hc y (by simp [hy]); omega) (fun e => hn (by rw [← show y = z from e]; exact hy))]
    exact h.2 y (by simp [hy])
theorem strOk_to : PyData.strOk "to" = true := by decide +kernel
theorem strOk_from : PyData.strOk "from" = true := by decide +kernel
theorem strOk_round : PyData.strOk "round" = true := by decide +kernel
theorem plain_eW (n : Nat) (w : Wd) : plainD n (eW w) = true := by cases w <;> cases n <;> simp [eW, plainD, strOk_to, strOk_from, strOk_round]
theorem plains_map {α : Type} (n : Nat) (e : α → D) (l : List α) (h : ∀ x ∈ l, plainD n (e x) = true) : plainDs n (l.map e) = true := by
  induction l with
  | nil => rfl
  | cons x l ih =>
    simp only [List.map_cons, plainDs, Bool.and_eq_true]
    exact ⟨h x (by simp), ih fun y hy => h y (by simp [hy])⟩
theorem cUn_set {ws : List Wd} {j : Nat} (h : ws[j]? = some .un) (w : Wd) (hw : w ≠ .un) : cUn (ws.set j w) + 1 = cUn ws := by
  unfold cUn
  induction ws generalizing j with
  | nil => simp at h
  | cons c ws ih =>
    cases j with
    | zero =>
      simp at h
      simp [List.countP_cons, h, hw]
    | succ j =>
      have := ih (j := j) (by simpa using h)
      simp [List.countP_cons] at this ⊢
      omega
section
variable {P : Program} {w : World} {K : PySem.W.Frag} {mg : Str → Option Value} {base : Heap}
abbrev sLawFull : Stmt := topS 95
theorem scLawFull : FnScope ["_law_ends_here", "_law_words", "_law_cuts", "_law_side", "_law_inner", "_law_word", "_law_which", "_law_at"] ["_law_ends_here", "_law_words", "_law_cuts"] (defScope sLawFull) := ⟨rfl, rfl, rfl, by decide +kernel, rfl, by decide +kernel, by decide +kernel⟩
@[simp] def cFull (k : Nat) : Ct := fun ds F => ∃ (ends : List End) (ws : List Wd) (cuts : List (Nat × Bool)) (f : Fam), ds = [.lst (ends.map eEnd), .lst (ws.map eW), .lst (cuts.map eCut)] ∧ (f ≠ .corner ∧ (∀ w ∈ ws, w ≠ .to ∧ (w = .un → f = .round)) ∧ (∀ e ∈ ends, EndOk e) ∧ ends.length = ws.length ∧ ws.length ≤ 2 ∧
  cuts.Nodup ∧ (∀ z ∈ cuts, z.1 < ws.length) ∧ cuts.length ≤ 4) ∧ cUn ws + cuts.length < k ∧ ∀ T, (∀ cell, Fits ws cuts cell → Wf f cell T) → ht T ≤ cUn ws + cuts.length → F (eTr T)
theorem ok__law_full_step (n : Nat) (d : Def K mg "_law_full" "_law_full" sLawFull ["_law_ends_here", "_law_words", "_law_cuts"]) (B : Blt mg) (c__law_full : Cal P w K mg base "_law_full" (0 + n) ["_law_ends_here", "_law_words", "_law_cuts"] (cFull n)) : Cal P w K mg base "_law_full" (0 + n + 1) ["_law_ends_here", "_law_words", "_law_cuts"] (cFull (n + 1)) := by
  refine cal_of d scLawFull ?len ⟨_, fun f cdv A outer s H E hr => (dss_cons (ds_if (dt_cmp op_in_seq l_inN de_non (de_var 1))
      (dss_cons (ds_set 3 scLawFull.nd (de_indexN (hu65 hr) (de_var 1)))
      (dss_cons (ds_setComp 4 [("_law_word", 5)] rfl scLawFull.nd (di_tup (de_tup (da_cons de_str (da_cons de_str da_nil)))) (fun _ _ _ _ _ => (dg_name 5 scLawFull.nd)) (fun _ _ _ _ _ => dts_nil) (fun _ _ _ _ _ => (de_fn c__law_full hr (hjk := by omega) (df_cons (de_var 0) (df_cons (de_op op_cat l_catL (de_op op_cat l_catL (de_slL (de_var 1) do_none (do_some (de_var 3))) (de_lst (da_cons (de_var 5) da_nil))) (de_slL (de_var 1) (do_some (de_op op_add l_I0 (de_var 3) de_int)) do_none)) (df_cons (de_var 2) df_nil))))) (blk_ok (N := ["_law_ends_here", "_law_words", "_law_cuts", "_law_side", "_law_inner", "_law_word", "_law_which", "_law_at"]) (sc := defScope sLawFull) rfl rfl (by decide +kernel)) (sw_true rfl rfl rfl (by decide +kernel)))
      (dss_one (ds_ret (de_tup (da_cons de_str (da_cons (de_var 3) (da_cons (de_ix ix_any l_ix (de_var 4) de_int) (da_cons (de_ix ix_any l_ix (de_var 4) de_int) da_nil)))))))))
      dss_nil)
      (dss_cons (ds_if (dt_cmp (op_eqD (hr.units)) l_eqD (de_var 2) (de_lst da_nil))
      (dss_one (ds_ret (de_tup da_nil)))
      dss_nil)
      (dss_cons (ds_asg (de_ix ix_any l_ix (de_var 2) de_int) (dg_tup (n := 2) rfl (dgs_cons (dg_name 3 scLawFull.nd) (dgs_cons (dg_name 6 scLawFull.nd) dgs_nil))))
      (dss_cons (ds_set 7 scLawFull.nd (de_ix ix_any l_ix (de_ix ix_any l_ix (de_var 0) (de_var 3)) (de_ix ix_any l_ix (de_lst (da_cons (de_var 6) (da_cons (de_op op_sub l_I0 de_int (de_var 6)) da_nil))) (de_callTy call_int1 l_intB B.int boot_int_ (da_cons (de_cmp op_eq l_eq (de_ix ix_any l_ix (de_var 1) (de_var 3)) de_str) da_nil)))))
      (dss_cons (ds_set 4 scLawFull.nd (de_fn c__law_full hr (hjk := by omega) (df_cons (de_var 0) (df_cons (de_var 1) (df_cons (de_slL (de_var 2) (do_some de_int) do_none) df_nil)))))
      (dss_one (ds_ret (de_tup (da_cons de_str (da_cons (de_var 3) (da_cons (de_var 6) (da_cons (de_var 7) (da_cons (de_var 4) (da_cons (de_var 4) da_nil)))))))))))))), ?c⟩
  case len =>
    intro ds G h
    simp only [cFull] at h
    repeat obtain ⟨_, h⟩ := h
    simp [*]
  case c =>
    intro ds G h0
    obtain ⟨ends, ws, cuts, f, rfl, ⟨hf, hw, he, hel, hl, hnd, hc, hcl⟩, hk, h⟩ := h0
    have hflat : (ws.map eW).all flatD = true := by
      rw [List.all_map, List.all_eq_true]
      intro w _
      cases w <;> rfl
    have hplain : plainD 64 (.lst (ws.map eW)) = true := plains_map 63 eW ws fun w _ => plain_eW _ _
    by_cases hun : ∃ w ∈ ws, w = .un
    · have hany : (ws.map eW).any DL.isNon = true := by
        rw [List.any_map, List.any_eq_true]
        obtain ⟨w, hw1, rfl⟩ := hun
        exact ⟨.un, hw1, rfl⟩
      obtain ⟨j, hj, hjm⟩ : ∃ j : Nat, ws[j]? = some Wd.un ∧ ∀ i : Nat, i < j → ∀ w : Wd, ws[i]? = some w → w ≠ Wd.un := by
        obtain ⟨w, hw1, rfl⟩ := hun
        have h1 : ws.findIdx (fun w => decide (w = .un)) < ws.length := List.findIdx_lt_length_of_exists ⟨_, hw1, by simp⟩
        refine ⟨ws.findIdx (fun w => decide (w = Wd.un)), ?_, fun i hi w hiw e => ?_⟩
        · rw [List.getElem?_eq_getElem h1]
          have := List.findIdx_getElem (w := h1)
          simpa using this
        · have h2 := List.not_of_lt_findIdx hi
          have h3 : i < ws.length := by omega
          rw [List.getElem?_eq_getElem h3] at hiw
          cases hiw
          simp [e] at h2
      have hjl : j < ws.length := (List.getElem?_eq_some_iff.mp hj).1
      have hfr : f = .round := (hw .un (List.mem_iff_getElem?.mpr ⟨j, hj⟩)).2 rfl
      have g1 : (ws.map eW)[j]? = some .non := by rw [List.getElem?_map, hj]; rfl
      have g2 : ∀ m z, m < j → (ws.map eW)[m]? = some z → DL.isNon z = false := fun m z hm hz => by
        rw [List.getElem?_map] at hz
        cases q : ws[m]? with
        | none => rw [q] at hz; cases hz
        | some w =>
          rw [q] at hz
          cases hz
          have := hjm m hm w q
          cases w <;> first | rfl | exact absurd rfl this
      have g3 := fun w => cut_set eW ws j w hjl
      have g4 : (DL.cutD (ws.map eW) none (some (j : Int))).length ≤ 2 := by
        rw [cut_to (by simp; omega)]
        simp only [List.length_take, List.length_map]
        omega
      have g5 : (DL.cutD (ws.map eW) (some ((j : Int) + 1)) none).length ≤ 2 := by
        rw [cut_from1 (by simpa using hjl)]
        simp only [List.length_drop, List.length_map]
        omega
      have hset : ∀ w, w ≠ .un → w ≠ .to → ∀ F : D → Prop, (∀ T, (∀ cell, Fits (ws.set j w) cuts cell → Wf f cell T) → ht T ≤ cUn (ws.set j w) + cuts.length → F (eTr T)) → cFull n [.lst (ends.map eEnd), .lst ((ws.set j w).map eW), .lst (cuts.map eCut)] F := fun w w1 w2 F hF => by
        have := cUn_set hj w w1
        refine ⟨ends, ws.set j w, cuts, f, rfl, ⟨hf, fun v hv => ?_, he, by rw [List.length_set]; exact hel, by rw [List.length_set]; exact hl, hnd, fun z hz => by rw [List.length_set]; exact hc z hz, hcl⟩, by omega, hF⟩
        rcases List.mem_or_eq_of_mem_set hv with hv | hv
        · exact hw v hv
        · exact ⟨by rw [hv]; exact w2, fun e => hfr⟩
      have r1 := hset .frm (by simp) (by simp)
      have r2 := hset .rnd (by simp) (by simp)
      rw [← g3] at r1 r2
      have c1 := cUn_set hj .frm (by simp)
      have c2 := cUn_set hj .rnd (by simp)
      generalize hws : ws.map eW = wd at *
      refine ⟨_, rfl, _, rfl, rfl, hflat, true, by rw [hany], ifT ?_⟩
      refine ⟨_, rfl, wd, j, rfl, hplain, g1, g2, ?_⟩
      simp [-cFull, CompD]
      refine ⟨by omega, by omega, r1 _ fun T1 hT1 hh1 => ⟨by omega, by omega, r2 _ fun T2 hT2 hh2 => ?_⟩⟩
      refine h (.ways j T1 T2) (fun cell hcell => ?_) (by simp only [ht]; omega)
      have hcl := fits_len hcell
      exact ⟨by omega, hfr, fits_w hcell (by omega) hj, hT1 _ (fits_word hcell hc j .frm), hT2 _ (fits_word hcell hc j .rnd)⟩
    · have hany : (ws.map eW).any DL.isNon = false := by
        rw [List.any_map, List.any_eq_false]
        intro w hw1 z
        cases w <;> first | (exact hun ⟨_, hw1, rfl⟩) | cases z
      have hcz : cUn ws = 0 := List.countP_eq_zero.mpr fun w hw1 z => hun ⟨w, hw1, by simpa using z⟩
      have hcp : plainD 64 (.lst (cuts.map eCut)) = true := plains_map 63 eCut cuts fun z _ => rfl
      refine ⟨_, rfl, _, rfl, rfl, hflat, false, by rw [hany], ifF ?_⟩
      cases cuts with
      | nil =>
        simp [plainD, plainDs, PyData.eqv, PyData.eqvAll, pyD, pyDs]
        exact h .leaf (fun cell hcell c hcm e => hun ⟨.un, by rw [← hcell.1, ← e]; exact List.mem_map_of_mem hcm, rfl⟩) (by simp only [ht]; omega)
      | cons z cuts =>
        obtain ⟨s, q⟩ := z
        have hs := hc (s, q) (by simp)
        obtain ⟨hz1, hnd2⟩ := List.nodup_cons.mp hnd
        have hse : s < ends.length := by omega
        have e1 : (ends.map eEnd)[s]? = some (eEnd ends[s]) := by rw [List.getElem?_map, List.getElem?_eq_getElem hse]; rfl
        have e2 : (ws.map eW)[s]? = some (eW ws[s]) := by rw [List.getElem?_map, List.getElem?_eq_getElem hs]; rfl
        have hE := he ends[s] (List.getElem_mem hse)
        have hwm := hw ws[s] (List.getElem_mem hs)
        have hwu : ws[s] ≠ .un := fun z => hun ⟨_, List.getElem_mem hs, z⟩
        have hrec : ∀ a, InOk a → ∀ F : D → Prop, (∀ T, (∀ cell, Fits ws ((s, q) :: cuts) cell → Wf f cell (.cut s q a T T)) → ht T ≤ cuts.length → F (eTr T)) → cFull n [.lst (ends.map eEnd), .lst (ws.map eW), .lst (cuts.map eCut)] F := fun a ha F hF => by
          refine ⟨ends, ws, cuts, f, rfl, ⟨hf, hw, he, hel, hl, hnd2, fun z hz => hc z (by simp [hz]), by simp at hcl; omega⟩, by simp at hk; omega, fun T hT hh => hF T (fun cell hcell => ?_) (by omega)⟩
          have hcl := fits_len hcell
          have hr : (getC cell s).rng q = wh := hcell.2 (s, q) (by simp)
          have hft := fits_cut (a := a) hcell hz1 hc
          refine ⟨by omega, fun _ => hf, ha.2.2, ?_, ?_, hT _ hft.1, hT _ hft.2⟩
          · rw [hr]
            exact Std.lt_trans (show (-1 : Rat) < 0 by decide) ha.1
          · rw [hr]
            exact ha.2.1
        have hcut1 : DL.cutD (eCut (s, q) :: cuts.map eCut) (some 1) none = cuts.map eCut := by
          rw [show (1 : Int) = ((1 : Nat) : Int) from rfl, cut_from (by simp)]
          rfl
        have hfin : ∀ a T, (∀ cell, Fits ws ((s, q) :: cuts) cell → Wf f cell (.cut s q a T T)) → ht T ≤ cuts.length → G (.tup [.str "cut", .int (s : Int), eBit q, eQ a, eTr T, eTr T]) := fun a T hT hh => h (.cut s q a T T) hT (by simp only [ht, List.length_cons]; omega)
        have p1 : plainD 64 (.lst (eCut (s, q) :: cuts.map eCut)) = true := hcp
        have p2 : PyData.eqv (pyD (.lst (eCut (s, q) :: cuts.map eCut))) (pyD (.lst [])) = false := by simp [pyD, pyDs, PyData.eqv, PyData.eqvAll]
        generalize hes : ends[s] = E at *
        obtain ⟨x1, x2, x3⟩ := E
        refine ⟨_, rfl, p1, rfl, false, congrArg D.bl p2, ifF ?_⟩
        refine ⟨_, rfl, _, ix0l _ _, _, rfl, rfl, _, _, rfl, _, _, rfl, rfl, ?_⟩
        cases hww : ws[s] with
        | to => exact absurd hww hwm.1
        | un => exact absurd hww hwu
        | frm =>
          rw [hww] at e2
          cases q
          · simp [-cFull, e1, e2, eW, eBit, eEnd, hcut1]
            refine hrec x1 hE.1 _ fun T hT hh => ?_
            simpa [eBit] using hfin x1 T hT hh
          · simp [-cFull, e1, e2, eW, eBit, eEnd, hcut1]
            refine hrec x2 hE.2.1 _ fun T hT hh => ?_
            simpa [eBit] using hfin x2 T hT hh
        | rnd =>
          rw [hww] at e2
          cases q
          · simp [-cFull, e1, e2, eW, eBit, eEnd, hcut1]
            refine hrec x2 hE.2.1 _ fun T hT hh => ?_
            simpa [eBit] using hfin x2 T hT hh
          · simp [-cFull, e1, e2, eW, eBit, eEnd, hcut1]
            refine hrec x1 hE.1 _ fun T hT hh => ?_
            simpa [eBit] using hfin x1 T hT hh
theorem ok__law_full (d : Def K mg "_law_full" "_law_full" sLawFull ["_law_ends_here", "_law_words", "_law_cuts"]) (B : Blt mg) : ∀ n, Cal P w K mg base "_law_full" (0 + n) ["_law_ends_here", "_law_words", "_law_cuts"] (cFull n)
  | 0 => ((cal_false d).mono (Nat.zero_le _)).imp (fun ds F h => by
    simp [cFull] at h)
  | n + 1 => ok__law_full_step n d B (ok__law_full d B n)
end
end EP

set_option Elab.async false
set_option linter.all false
set_option maxRecDepth 100000
set_option maxHeartbeats 4000000
namespace DL
open PySem PySem.Spec PyProof.Rows L2
section
variable {X : Cx} {pos : Pos}
theorem ds_cells2 (i j c : Nat) {x y z : Str} {p0 p1 p2 p3 p4 p5 p6 p7 p8 p9 q1 q2 q3 q4 q5 q6 q7 q8 : Pos} {j1 j2 j3} (hu : X.A.units + 1 < cLine) (hu64 : X.A.units + 64 < cLine) (hN : X.N.Nodup) (hml : X.mg "len" = none) (hi : X.N[i]? = some x := by rfl) (hj : X.N[j]? = some z := by rfl) (hcy : X.N[c]? = some y := by rfl)
    (hv : Vis X.env.scope x := by first | exact Or.inl rfl | exact Or.inr (Or.inl rfl) | exact Or.inr (Or.inr rfl)) (hd : (x == ("__debug__" : Str)) = false := by decide) (hcd : (x == ("__classdict__" : Str)) = false := by decide)
    (hvz : Vis X.env.scope z := by first | exact Or.inl rfl | exact Or.inr (Or.inl rfl) | exact Or.inr (Or.inr rfl)) (hdz : (z == ("__debug__" : Str)) = false := by decide) (hcdz : (z == ("__classdict__" : Str)) = false := by decide)
    (hx : Loc X.env.scope y := by first | exact .inl rfl | exact .inr rfl) (hf : X.fn y = true ∨ X.env.scope.names.lookup y = some .local := by first | exact .inl rfl | exact .inr rfl) (hgl : Gl X "len" := by rfl)
    (hm : behindInMarks .NotEq (.List [] p4) = false := by first | exact nomark _ | rfl)
    (hsl : starEach [.Subscript (.Name x q4) (.Constant (.str "cells") j3 q5) q6] X.env = (false, eval (.Subscript (.Name x q4) (.Constant (.str "cells") j3 q5) q6) X.env) :: starEach [] X.env := by rfl)
    (hpl : (backTo q7 (starEach [] X.env)).any (·.1) = false := by rfl)
    (hsw : swapsWith (.Subscript (.Subscript (.Name x p6) (.Constant (.str "cells") j2 p7) p8) (.BinOp (.Name z q1) .Mod (.Call (.Name "len" q2) [.Subscript (.Name x q4) (.Constant (.str "cells") j3 q5) q6] [] q7) q8) p9) (some (.Name y p5)) q3.line X.env = pure false := by rfl) :
    DS X (.If (.Compare (.Subscript (.Name x p1) (.Constant (.str "cells") j1 p2) p3) [.NotEq] [.List [] p4] p0)
      [.Assign [.Name y p5] (.Subscript (.Subscript (.Name x p6) (.Constant (.str "cells") j2 p7) p8) (.BinOp (.Name z q1) .Mod (.Call (.Name "len" q2) [.Subscript (.Name x q4) (.Constant (.str "cells") j3 q5) q6] [] q7) q8) p9) q3] [] pos) (dCellsIf i j c) := by
  have pf : ∀ {p1 p2 p3 : Pos} {j1}, PE X (.Subscript (.Name x p1) (.Constant (.str "cells") j1 p2) p3) (tDGet (tVar i) (tC (.str "cells"))) := fun {p1 p2 p3 j1} => pe_dget hu (pe_var hi hv hd hcd) pe_str (fun _ _ => rfl)
  refine ⟨_, ps_if (pt_cmpR (op_neD hu64) pf (pe_lst pa_nil) hm) (pss_one (ps_set hN hcy hx (pe_ix ix_any pf (pe_op op_mod (pe_var hj hvz hdz hcdz) (pe_callB call_len_seq hgl hml PySem.boot_len (pa_cons pf pa_nil hsl) (by decide) (by decide) hsl hpl)) (fun _ _ => rfl)) hsw hf)) pss_nil, fun β ρ H0 σ H E D' hd l ⟨h1, k, h2, h3, h4⟩ => ?_⟩
  obtain ⟨a, ha, h0, kvs, hk, cc, ns, x, l2, t2, rfl, hc, hn⟩ := hd.feed i h1
  obtain ⟨v, hv1, hv2⟩ := hd.val j _ h2
  cases hv2
  have hcH := hd.x _ _ hc
  refine ⟨_, ha, a, .ref cc, rfl, DGet.k (k := .inr "cells") hk, ?_⟩
  refine ⟨by decide, fun q hq => ?_⟩
  have hk1 : upd H q (.lst []) a = some (.dK (feedKvs cc x l2 t2)) := by rw [upd_ne (ne_of_none hk hq)]; exact hk
  have hc1 : upd H q (.lst []) cc = some (.lst (ns.map V.int)) := by rw [upd_ne (ne_of_none hcH hq)]; exact hcH
  have g1 : Gr X.K H0 H H0 (upd H q (.lst [])) := Gr.newM hq
  have hd1 : Hd X.K β ρ H0 σ (upd H q (.lst [])) := hd.up (hd.x.trans (Ex.new hq)) g1
  have dp : DpAll X.K (upd H q (.lst [])) (ns.map V.int) (pyDs (ns.map D.int)) := plains_dp hd1.x 63 (ns.map D.int) _ (plains_ints 63 ns) (reps_of_ints ns)
  refine ⟨.list (pyDs (ns.map D.int)), .list [], .lst (SqL.of hc1) dp, .lst (SqL.of upd_same) .nil, ?_, by decide +kernel, ?_⟩
  · exact plain_shaped (d := .lst (ns.map D.int)) (plains_ints 63 ns)
  · refine ⟨_, rfl, ?_⟩
    cases ns with
    | nil => exact l.nx _ _ _ _ hd1 h3
    | cons n ns =>
      have e : (!(PyData.list (pyDs (List.map D.int (n :: ns)))).eqv (PyData.list [])) = true := rfl
      rw [e]
      rw [if_pos rfl]
      refine ⟨_, ha, a, .ref cc, rfl, DGet.k (k := .inr "cells") hk1, ?_⟩
      refine ⟨_, hv1, ?_⟩
      refine ⟨_, ha, a, .ref cc, rfl, DGet.k (k := .inr "cells") hk1, ?_⟩
      refine ⟨cc, _, rfl, .inl (SqL.of hc1), ?_⟩
      have hl : 0 < (((n :: ns).map V.int).length : Int) := by
        simp only [List.length_map, List.length_cons]
        omega
      refine ⟨k, _, rfl, rfl, hl, ?_⟩
      have r0 : 0 ≤ k % (((n :: ns).map V.int).length : Int) := Int.emod_nonneg _ (by omega)
      have r1 : k % (((n :: ns).map V.int).length : Int) < (((n :: ns).map V.int).length : Int) := Int.emod_lt_of_pos _ hl
      obtain ⟨m, hr⟩ := Int.eq_ofNat_of_zero_le r0
      have hm : m < (n :: ns).length := by
        rw [hr] at r1
        simp only [List.length_map] at r1
        omega
      refine .inl ⟨cc, (n :: ns).map V.int, k % (((n :: ns).map V.int).length : Int), .int (n :: ns)[m], rfl, rfl, SqL.of hc1, ?_, ?_⟩
      · rw [hr] at r0 r1 ⊢
        unfold atI ixN
        rw [if_pos r0, if_pos r1]
        show ((n :: ns).map V.int)[(m : Int).toNat]? = _
        rw [Int.toNat_natCast, List.getElem?_map, List.getElem?_eq_getElem hm]
        rfl
      · exact l.nx _ _ _ _ (hd1.set (.int _)) (h4 _)
end
end DL
namespace EP
open PySem PySem.Spec PyProof.Rows L2 DL
@[simp] def cDraw : Ct := fun ds F => ∃ m : Int, ds = [.feed, .int m] ∧ 0 < m ∧ m < 1000000000000 ∧ ∀ r : Int, 0 ≤ r → r < m → F (.int r)
section
variable {P : Program} {w : World} {K : PySem.W.Frag} {mg : Str → Option Value} {base : Heap}
abbrev sLawDraw : Stmt := topS 81
theorem scLawDraw : FnScope ["_law_feed_here", "_law_many", "_law_found", "_law_spot", "_law_cell", "_law_mixed"] ["_law_feed_here", "_law_many"] (defScope sLawDraw) := ⟨rfl, rfl, rfl, by decide +kernel, rfl, by decide +kernel, by decide +kernel⟩
theorem ok__law_draw (d : Def K mg "_law_draw" "_law_draw" sLawDraw ["_law_feed_here", "_law_many"]) (B : Blt mg) : Cal P w K mg base "_law_draw" 1 ["_law_feed_here", "_law_many"] cDraw := by
  refine cal_of d scLawDraw ?len ⟨_, fun f cdv A outer s H E hr => (dss_cons (ds_put 0 "turn" (hu_of hr) (de_op op_add l_I0 (de_feedI 0 "turn" (hu_of hr)) de_int) (fun _ _ _ _ _ => ⟨_, _, _, rfl⟩))
      (dss_cons (ds_if (dt_cmp op_gt l_B0 (de_feedI 0 "left" (hu_of hr)) de_int)
      (dss_cons (ds_set 2 scLawDraw.nd (de_op op_mod l_I (de_feedI 0 "left" (hu_of hr)) (de_var 1)))
      (dss_cons (ds_put 0 "left" (hu_of hr) (de_op op_fdivW l_I (de_feedI 0 "left" (hu_of hr)) (de_var 1)) (fun _ _ _ _ _ => ⟨_, _, _, rfl⟩))
      (dss_one (ds_ret (de_var 2)))))
      dss_nil)
      (dss_cons (ds_set 3 scLawDraw.nd (de_feedI 0 "at" (hu_of hr)))
      (dss_cons (ds_put 0 "at" (hu_of hr) (de_op op_add l_I0 (de_var 3) de_int) (fun _ _ _ _ _ => ⟨_, _, _, rfl⟩))
      (dss_cons (ds_set 4 scLawDraw.nd de_int)
      (dss_cons (ds_cells2 0 3 4 (hu_of hr) hr.units scLawDraw.nd B.len)
      (dss_cons (ds_if (DW.dt (dw_and (dt_cmp op_ge l_B0 (de_var 4) (de_op op_pow l_I de_int de_int)) (dw_and1 (dt_cmp op_lt l_B0 (de_var 3) (de_callB call_len_seq l_len B.len PySem.boot_len (da_cons (de_feedC 0 (hu_of hr)) da_nil))))))
      (dss_cons (ds_put 0 "left" (hu_of hr) (de_op op_fdivW l_I (de_var 4) (de_var 1)) (fun _ _ _ _ _ => ⟨_, _, _, rfl⟩))
      (dss_one (ds_ret (de_op op_mod l_I (de_var 4) (de_var 1)))))
      dss_nil)
      (dss_cons (ds_set 5 scLawDraw.nd (de_op op_mod l_I (de_op op_mul l_I (de_op op_add l_I0 (de_op op_add l_I0 (de_op op_mod l_I (de_var 4) de_int) (de_op op_mul l_I de_int (de_feedI 0 "turn" (hu_of hr)))) de_int) de_int) de_int))
      (dss_cons (ds_set 5 scLawDraw.nd (de_op op_mod l_I (de_op op_mul l_I (de_op op_add l_I0 (de_op op_fdivW l_I (de_var 5) de_int) (de_op op_mul l_I de_int (de_feedI 0 "turn" (hu_of hr)))) de_int) de_int))
      (dss_one (ds_ret (de_op op_mod l_I (de_op op_fdivW l_I (de_var 5) de_int) (de_var 1))))))))))))), ?c⟩
  case len =>
    intro ds G h
    simp only [cDraw] at h
    repeat obtain ⟨_, h⟩ := h
    simp [*]
  case c =>
    intro ds G h0
    obtain ⟨m, rfl, h1, h2, h⟩ := h0
    have hd1 : ∀ i : Int, CDivW i m := fun i => ⟨h1, Nat.lt_trans (log_lt (k := 40) (by decide) (by omega)) (by decide)⟩
    have hd2 : ∀ i : Int, CDivW i 64 := fun i => ⟨by decide, by decide⟩
    have hm1 : ∀ i : Int, CMul 1013 i := fun i => .inl (by decide)
    have hm2 : ∀ i : Int, CMul 37 i := fun i => .inl (by decide)
    have hm3 : ∀ i : Int, CMul i 48271 := fun i => .inr (by decide)
    have hm4 : ∀ i : Int, CMul i 69621 := fun i => .inr (by decide)
    have hp : CPow 10 18 := ⟨by decide, by decide, by decide⟩
    have hg : ∀ i : Int, G (.int (i % m)) := fun i => h _ (Int.emod_nonneg i (by omega)) (Int.emod_lt_of_pos i h1)
    simp [hd1, hd2, hm1, hm2, hm3, hm4, hp, hg, h1]
end
end EP

set_option Elab.async false
set_option linter.all false
set_option maxRecDepth 100000
set_option maxHeartbeats 4000000
namespace EP
open PySem PySem.Spec PyProof.Rows L2 DL
def eCutI (z : Nat × Bool) : D := eCut z
section
variable {P : Program} {w : World} {K : PySem.W.Frag} {mg : Str → Option Value} {base : Heap}
abbrev sLawOrder : Stmt := topS 94
theorem scLawOrder : FnScope ["_law_feed_here", "_law_s", "_law_found", "_law_side", "_law_which"] ["_law_feed_here", "_law_s"] (defScope sLawOrder) := ⟨rfl, rfl, rfl, by decide +kernel, rfl, by decide +kernel, by decide +kernel⟩
@[simp] def cOrder : Ct := fun ds F => ∃ n : Nat, ds = [.feed, .int (n : Int)] ∧ n ≤ 2 ∧ ∀ cuts : List (Nat × Bool), cuts.Nodup → (∀ z ∈ cuts, z.1 < n) → cuts.length ≤ 4 → F (.lst (cuts.map eCut))
theorem ins_map {α : Type} (e : α → D) (l : List α) (r : Nat) (x : α) : (l.map e).take r ++ [e x] ++ (l.map e).drop r = (l.take r ++ [x] ++ l.drop r).map e := by simp
theorem ins_perm {α : Type} (l : List α) (r : Nat) (x : α) : (l.take r ++ [x] ++ l.drop r).Perm (x :: l) := by
  have h1 : (l.take r ++ [x] ++ l.drop r).Perm ([x] ++ l.take r ++ l.drop r) := List.Perm.append_right _ List.perm_append_comm
  simpa using h1
theorem ok__law_order (d : Def K mg "_law_order" "_law_order" sLawOrder ["_law_feed_here", "_law_s"]) (B : Blt mg) (c__law_draw : Cal P w K mg base "_law_draw" 1 ["_law_feed_here", "_law_many"] cDraw) : Cal P w K mg base "_law_order" 2 ["_law_feed_here", "_law_s"] cOrder := by
  refine cal_of d scLawOrder ?len ⟨_, fun f cdv A outer s H E hr => (dss_cons (ds_own 2 scLawOrder.nd da_nil)
      (dss_cons (ds_for PassesOwn.never rfl (di_range B.range (de_var 1)) (dg_name 3 scLawOrder.nd)
      (dss_one (ds_for PassesOwn.never rfl (di_range B.range de_int) (dg_name 4 scLawOrder.nd)
      (dss_one (ds_insert 2 (da_cons (de_fn c__law_draw hr (df_feed 0 (df_cons (de_op op_add l_I0 (de_lenO 2 B.len) de_int) df_nil))) (da_cons (de_tup (da_cons (de_var 3) (da_cons (de_var 4) da_nil))) da_nil)))))))
      (dss_freeze 2 (dss_one (ds_ret (de_var 2)))))), ?c⟩
  case len =>
    intro ds G h
    simp only [cOrder] at h
    repeat obtain ⟨_, h⟩ := h
    simp [*]
  case c =>
    intro ds G h0
    obtain ⟨n, rfl, hn, h⟩ := h0
    refine ⟨_, rfl, _, rfl, by omega, by omega, ?_⟩
    show ForD _ _ _ ((List.range n).map fun (i : Nat) => D.int (i : Int)) _
    refine forD_inv (fun (i : Nat) => D.int (i : Int)) (fun rest ρ => ∃ (k : Nat) (cuts : List (Nat × Bool)) (o3 o4 : Option S), rest = (List.range n).drop k ∧ k ≤ n ∧ cuts.Nodup ∧ (∀ z ∈ cuts, z.1 < k) ∧ cuts.length ≤ 2 * k ∧ ρ = [some .feed, some (.val (.int n)), some (.own (cuts.map eCut)), o3, o4]) ?_ ?_ _ _ ⟨0, [], _, _, by simp, by omega, by simp, by simp, by simp, rfl⟩
    · rintro s rest ρ N hN ⟨k, cuts, o3, o4, hr, hk, hnd, hc, hcl, rfl⟩
      have hkn : k < n := by
        rcases Nat.lt_or_ge k n with h | h
        · exact h
        · rw [List.drop_of_length_le (by simpa using h)] at hr
          cases hr
      have hks : s = k ∧ rest = (List.range n).drop (k + 1) := by
        rw [List.drop_eq_getElem_cons (by simpa using hkn)] at hr
        simp at hr
        exact hr
      obtain ⟨rfl, hrest⟩ := hks
      have hone : ∀ (cs : List (Nat × Bool)) (b : Bool) (r : Int), cs.Nodup → (s, b) ∉ cs → (cs.take r.toNat ++ [(s, b)] ++ cs.drop r.toNat).Nodup ∧ (∀ z, z ∈ (cs.take r.toNat ++ [(s, b)] ++ cs.drop r.toNat) ↔ z = (s, b) ∨ z ∈ cs) ∧ (cs.take r.toNat ++ [(s, b)] ++ cs.drop r.toNat).length = cs.length + 1 := fun cs b r h1 h2 => by
        have hp := ins_perm cs r.toNat (s, b)
        exact ⟨hp.nodup_iff.mpr (List.nodup_cons.mpr ⟨h2, h1⟩), fun z => by rw [hp.mem_iff, List.mem_cons], by rw [hp.length_eq, List.length_cons]⟩
      have hf0 : (s, false) ∉ cuts := fun z => by have := hc _ z; simp at this
      refine ⟨_, rfl, by omega, by omega, ?_⟩
      simp [rangeD, List.range, List.range.loop, ForD]
      refine ⟨by omega, by omega, fun r hr0 hr1 => ⟨hr0, by omega, by omega, by omega, fun r2 hr20 hr21 => ⟨hr20, by omega, ?_⟩⟩⟩
      have a1 := hone cuts false r hnd hf0
      have hf1 : (s, true) ∉ cuts.take r.toNat ++ [(s, false)] ++ cuts.drop r.toNat := fun z => by
        rcases (a1.2.1 _).mp z with z | z
        · cases z
        · have := hc _ z
          simp at this
      have e1 : (List.map eCut cuts).take r.toNat ++ .tup [.int (s : Int), .int 0] :: (List.map eCut cuts).drop r.toNat = (cuts.take r.toNat ++ [(s, false)] ++ cuts.drop r.toNat).map eCut := by simp [eCut, eBit]
      rw [e1]
      generalize hcs : cuts.take r.toNat ++ [(s, false)] ++ cuts.drop r.toNat = cs at *
      have a2 := hone cs true r2 a1.1 hf1
      have e2 : (List.map eCut cs).take r2.toNat ++ .tup [.int (s : Int), .int 1] :: (List.map eCut cs).drop r2.toNat = (cs.take r2.toNat ++ [(s, true)] ++ cs.drop r2.toNat).map eCut := by simp [eCut, eBit]
      rw [e2]
      refine hN _ ⟨s + 1, _, _, _, hrest, by omega, a2.1, fun z hz => ?_, by rw [a2.2.2, a1.2.2]; omega, rfl⟩
      rcases (a2.2.1 z).mp hz with rfl | hz
      · exact Nat.lt_succ_self s
      · rcases (a1.2.1 z).mp hz with rfl | hz
        · exact Nat.lt_succ_self s
        · exact Nat.lt_succ_of_lt (hc z hz)
    · rintro ρ ⟨k, cuts, o3, o4, hr, hk, hnd, hc, hcl, rfl⟩
      have hkn : k = n := by
        have := congrArg List.length hr
        simp at this
        omega
      subst hkn
      simp
      exact h cuts hnd hc (by omega)
abbrev sLawSmall : Stmt := topS 96
theorem scLawSmall : FnScope ["_law_feed_here", "_law_family", "_law_s", "_law_node", "_law_side"] ["_law_feed_here", "_law_family", "_law_s"] (defScope sLawSmall) := ⟨rfl, rfl, rfl, by decide +kernel, rfl, by decide +kernel, by decide +kernel⟩
@[simp] def cSmall : Ct := fun ds F => ∃ (f : Fam) (n : Nat), ds = [.feed, eF f, .int (n : Int)] ∧ (n = 1 ∨ n = 2) ∧ f ≠ .corner ∧ ∀ T, Wf f (first n f) T → ht T ≤ 3 → F (eTr T)
theorem pow_16 : 16 < 2 ^ 8900 := Nat.lt_of_lt_of_le (show 16 < 2 ^ 5 by decide) (Nat.pow_le_pow_right (by decide) (by decide))
theorem frac16 {r : Int} (h0 : 0 ≤ r) (h1 : r < 15) : InOk (mkRat (1 + r) 16) := by
  refine ⟨?_, ?_, Sm.mono (n := 5) (sm_mkRat ?_ (by decide) (by decide)) (by decide)⟩
  · exact (mk_pos _ _ (by decide)).mpr (by omega)
  · rw [Rat.mkRat_eq_div, Rat.div_lt_iff (by decide)]
    rw [Rat.one_mul]
    have : (1 + r) < 16 := by omega
    exact_mod_cast this
  · have : (1 + r).natAbs < 16 := by omega
    exact Nat.lt_of_lt_of_le this (by decide)
/-- no node, or one cut in fresh ranges -/
def Tiny (n : Nat) : Tr → Prop
  | .leaf => True
  | .cut s q a .leaf .leaf => s < n ∧ InOk a
  | _ => False
theorem tiny_wf {f : Fam} (hf : f ≠ .corner) {cell : Cell} (hc : ∀ c ∈ cell, c.w ≠ .un ∧ c.r0 = wh ∧ c.r1 = wh) : ∀ T, Tiny cell.length T → Wf f cell T
  | .leaf, _ => fun c hcm => (hc c hcm).1
  | .cut s q a .leaf .leaf, h => by
    have hg := hc _ (getC_mem h.1)
    have hr : (getC cell s).rng q = wh := by cases q; exact hg.2.1; exact hg.2.2
    refine ⟨h.1, fun _ => hf, h.2.2.2, ?_, ?_, fun c hcm => ?_, fun c hcm => ?_⟩
    · rw [hr]
      exact Std.lt_trans (show (-1 : Rat) < 0 by decide) h.2.1
    · rw [hr]
      exact h.2.2.1
    · rcases mem_modify hcm with hcm | ⟨y, hy, e, rfl⟩
      · exact (hc c hcm).1
      · rw [w_low]
        exact (hc y hy).1
    · rcases mem_modify hcm with hcm | ⟨y, hy, e, rfl⟩
      · exact (hc c hcm).1
      · rw [w_high]
        exact (hc y hy).1
  | .cut _ _ _ (.cut ..) _, h => by cases h
  | .cut _ _ _ (.ways ..) _, h => by cases h
  | .cut _ _ _ .leaf (.cut ..), h => by cases h
  | .cut _ _ _ .leaf (.ways ..), h => by cases h
theorem tiny_ht {n : Nat} : ∀ {T : Tr}, Tiny n T → ht T ≤ 1
  | .leaf, _ => by simp [ht]
  | .cut s q a .leaf .leaf, h => by simp [ht]
  | .cut _ _ _ (.cut ..) _, h => by cases h
  | .cut _ _ _ (.ways ..) _, h => by cases h
  | .cut _ _ _ .leaf (.cut ..), h => by cases h
  | .cut _ _ _ .leaf (.ways ..), h => by cases h
theorem ok__law_small (d : Def K mg "_law_small" "_law_small" sLawSmall ["_law_feed_here", "_law_family", "_law_s"]) (B : Blt mg) (c__law_draw : Cal P w K mg base "_law_draw" 1 ["_law_feed_here", "_law_many"] cDraw) (c__law_frac : Cal P w K mg base "_law_frac" 1 ["_law_top", "_law_bottom"] cFraction) : Cal P w K mg base "_law_small" 2 ["_law_feed_here", "_law_family", "_law_s"] cSmall := by
  refine cal_of d scLawSmall ?len ⟨_, fun f cdv A outer s H E hr => (dss_cons (ds_set 3 scLawSmall.nd (de_tup da_nil))
      (dss_cons (ds_if (dt_cmp op_eq l_eq (de_fn c__law_draw hr (df_feed 0 (df_cons de_int df_nil))) de_int)
      (dss_one (ds_set 3 scLawSmall.nd (de_tup (da_cons de_str (da_cons (de_fn c__law_draw hr (df_feed 0 (df_cons (de_var 2) df_nil))) (da_cons (de_fn c__law_draw hr (df_feed 0 (df_cons de_int df_nil))) (da_cons (de_fn c__law_frac hr (df_cons (de_op op_add l_I0 de_int (de_fn c__law_draw hr (df_feed 0 (df_cons de_int df_nil)))) (df_cons de_int df_nil))) (da_cons (de_tup da_nil) (da_cons (de_tup da_nil) da_nil)))))))))
      dss_nil)
      (dss_cons (ds_if (dt_cmp op_eq l_eq (de_var 1) de_str)
      (dss_one (ds_for PassesOwn.never rfl (di_range B.range (de_var 2)) (dg_name 4 scLawSmall.nd)
      (dss_one (ds_set 3 scLawSmall.nd (de_tup (da_cons de_str (da_cons (de_var 4) (da_cons (de_var 3) (da_cons (de_var 3) da_nil)))))))))
      dss_nil)
      (dss_one (ds_ret (de_var 3)))))), ?c⟩
  case len =>
    intro ds G h
    simp only [cSmall] at h
    repeat obtain ⟨_, h⟩ := h
    simp [*]
  case c =>
    intro ds G h0
    obtain ⟨f, n, rfl, hn, hf, h⟩ := h0
    have key : ∀ T, Tiny n T → (f = .inner → ∀ F : D → Prop, (∀ T, Wf f (first n f) T → ht T ≤ 3 → F (eTr T)) → F (eTr T)) ∧ (f = .round → n = 1 → G (eTr (.ways 0 T T))) ∧ (f = .round → n = 2 → G (eTr (.ways 1 (.ways 0 T T) (.ways 0 T T)))) := fun T hT => by
      have hth := tiny_ht hT
      refine ⟨fun e F hF => ?_, fun e e2 => ?_, fun e e2 => ?_⟩
      · subst e
        refine hF T (tiny_wf hf (fun c hc => ?_) T (by simpa [first] using hT)) (by omega)
        have := List.eq_of_mem_replicate hc
        subst this
        exact ⟨by simp [firstC], rfl, rfl⟩
      · subst e e2
        refine h _ ⟨by simp [first], rfl, rfl, tiny_wf hf (fun c hc => ?_) T hT, tiny_wf hf (fun c hc => ?_) T hT⟩ (by simp only [ht]; omega)
        · simp [first, firstC, CS.word] at hc
          subst hc
          exact ⟨by simp, rfl, rfl⟩
        · simp [first, firstC, CS.word] at hc
          subst hc
          exact ⟨by simp, rfl, rfl⟩
      · subst e e2
        refine h _ ⟨by simp [first], rfl, rfl, ⟨by simp [first], rfl, rfl, tiny_wf hf (fun c hc => ?_) T hT, tiny_wf hf (fun c hc => ?_) T hT⟩, ⟨by simp [first], rfl, rfl, tiny_wf hf (fun c hc => ?_) T hT, tiny_wf hf (fun c hc => ?_) T hT⟩⟩ (by simp only [ht]; omega)
        all_goals
          simp [first, firstC, CS.word, List.replicate, List.modify] at hc
          rcases hc with rfl | rfl <;> exact ⟨by simp, rfl, rfl⟩
    have hmain : ∀ T, Tiny n T → dSeq (dIfS (dB (dOp fEq (dVar 1) (dC (.str "round")))) (dFor (iRng (dVar 2)) (aName 4) (dSet 3 (dTup (dCons (dC (.str "ways")) (dCons (dVar 4) (dCons (dVar 3) (dCons (dVar 3) dNil))))))) dNext) (dRet (dVar 3)) { nx := fun _ => G .non, rt := G } [some .feed, some (.val (eF f)), some (.val (.int n)), some (.val (eTr T)), none] := fun T hT => by
      obtain ⟨k1, k2, k3⟩ := key T hT
      cases f with
      | corner => exact absurd rfl hf
      | inner =>
        simp [eF]
        exact k1 rfl G h
      | round =>
        rcases hn with rfl | rfl
        · simp [eF, rangeD, List.range, List.range.loop, ForD]
          exact k2 rfl rfl
        · simp [eF, rangeD, List.range, List.range.loop, ForD]
          exact k3 rfl rfl
    simp only [startD, List.map_cons, List.map_nil, argS_eF, argS_int, argS_feed, List.cons_append, List.nil_append]
    refine ⟨rfl, 2, rfl, by decide, by decide, fun r hr0 hr1 => ?_⟩
    refine ⟨_, rfl, _, rfl, ?_⟩
    refine ite2 (fun c => ?_) (fun c => ?_)
    · refine ⟨rfl, _, rfl, _, rfl, by omega, by omega, fun s hs0 hs1 => ⟨rfl, 2, rfl, by decide, by decide, fun q hq0 hq1 => ⟨rfl, 15, rfl, by decide, by decide, fun t ht0 ht1 => ⟨_, _, rfl, rfl, _, _, rfl, by decide, ?_, pow_16, ?_⟩⟩⟩⟩
      · exact Nat.lt_of_le_of_lt (show (1 + t).natAbs ≤ 16 by omega) pow_16
      · obtain ⟨s', rfl⟩ := Int.eq_ofNat_of_zero_le hs0
        have hs' : s' < n := by omega
        have := hmain (.cut s' (decide (q = 1)) (mkRat (1 + t) 16) .leaf .leaf) ⟨hs', frac16 ht0 ht1⟩
        have hq : eBit (decide (q = 1)) = .int q := by
          by_cases e : q = 1
          · subst e; rfl
          · obtain rfl : q = 0 := by omega
            rfl
        rw [eTr, hq] at this
        exact this
    · exact hmain .leaf trivial
end
end EP

set_option Elab.async false
set_option linter.all false
set_option maxRecDepth 100000
set_option maxHeartbeats 4000000
namespace EP
open PySem PySem.Spec PyProof.Rows L2 DL
theorem co_in {q : Rat} (h : InOk q) : CoOk q := ⟨Rat.le_of_lt h.1, h.2⟩
theorem in_frac {t b : Int} (h0 : 0 < t) (h1 : t < b) (hb : b ≤ 999999999988) : InOk (mkRat t b.toNat) := by
  obtain ⟨m, rfl⟩ := Int.eq_ofNat_of_zero_le (show 0 ≤ b by omega)
  have hm : m ≠ 0 := by omega
  refine ⟨(mk_pos _ _ (by simpa using hm)).mpr h0, ?_, Sm.mono (n := 40) (sm_mkRat ?_ ?_ (by decide)) (by decide)⟩
  · rw [Rat.mkRat_eq_div, Rat.div_lt_iff (by simp; exact_mod_cast Nat.pos_of_ne_zero hm), Rat.one_mul]
    simp
    exact_mod_cast h1
  · exact Nat.lt_of_lt_of_le (show t.natAbs < 999999999989 by omega) (by decide)
  · exact Nat.lt_of_lt_of_le (show (m : Int).toNat < 999999999989 by omega) (by decide)
theorem pts_of {n : Nat} {ends : List End} {ys : List D} (R : End → D → Prop) (hR : ∀ e y, R e y → ∃ q, y = eQ q ∧ CoOk q) (h : Paired R ends ys) : ∃ p : Pt, ys = p.map eQ ∧ p.length = ends.length ∧ ∀ x ∈ p, CoOk x := by
  induction h with
  | nil => exact ⟨[], rfl, rfl, by simp⟩
  | cons r _ ih =>
    obtain ⟨p, rfl, h2, h3⟩ := ih
    obtain ⟨q, rfl, hq⟩ := hR _ _ r
    exact ⟨q :: p, rfl, by simp [h2], fun x hx => by
      rcases List.mem_cons.mp hx with rfl | hx
      · exact hq
      · exact h3 x hx⟩
theorem big_lt {i : Int} (h : i.natAbs < 2 ^ 50) : i.natAbs < 2 ^ 8900 := Nat.lt_trans h (Nat.pow_lt_pow_right (by decide) (by decide))
section
variable {P : Program} {w : World} {K : PySem.W.Frag} {mg : Str → Option Value} {base : Heap}
abbrev sLawWorld : Stmt := topS 93
theorem scLawWorld : FnScope ["_law_feed_here", "_law_s", "_law_ends_here", "_law_rows", "_law_side", "_law_bottom", "_law_low", "_law_high", "_law_row", "_law_found", "_law_k", "_law_numbers"] ["_law_feed_here", "_law_s"] (defScope sLawWorld) := ⟨rfl, rfl, rfl, by decide +kernel, rfl, by decide +kernel, by decide +kernel⟩
@[simp] def cWorld : Ct := fun ds F => ∃ n : Nat, ds = [.feed, .int (n : Int)] ∧ (n = 1 ∨ n = 2) ∧ ∀ (ends : List End) (pts : List Pt), ends.length = n → (∀ e ∈ ends, EndOk e) → (∀ p ∈ pts, PtOk n p) → 1 ≤ pts.length → pts.length ≤ 6 → F (.tup [.lst (ends.map eEnd), ePts pts])
theorem ok__law_world (d : Def K mg "_law_world" "_law_world" sLawWorld ["_law_feed_here", "_law_s"]) (B : Blt mg) (c__law_draw : Cal P w K mg base "_law_draw" 1 ["_law_feed_here", "_law_many"] cDraw) (c__law_frac : Cal P w K mg base "_law_frac" 1 ["_law_top", "_law_bottom"] cFraction) : Cal P w K mg base "_law_world" 2 ["_law_feed_here", "_law_s"] cWorld := by
  refine cal_of d scLawWorld ?len ⟨_, fun f cdv A outer s H E hr => (dss_cons (ds_own 2 scLawWorld.nd da_nil)
      (dss_cons (ds_set 3 scLawWorld.nd (de_lst (da_cons (de_tup da_nil) da_nil)))
      (dss_cons (ds_for PassesOwn.never rfl (di_range B.range (de_var 1)) (dg_name 4 scLawWorld.nd)
      (dss_cons (ds_set 5 scLawWorld.nd (de_ix ix_any l_ix (de_lst (da_cons de_int (da_cons de_int (da_cons de_int (da_cons de_int (da_cons de_int da_nil)))))) (de_fn c__law_draw hr (df_feed 0 (df_cons de_int df_nil)))))
      (dss_cons (ds_set 6 scLawWorld.nd (de_op op_add l_I0 de_int (de_fn c__law_draw hr (df_feed 0 (df_cons (de_op op_sub l_I0 (de_var 5) de_int) df_nil)))))
      (dss_cons (ds_set 7 scLawWorld.nd (de_op op_add l_I0 (de_op op_add l_I0 (de_var 6) de_int) (de_fn c__law_draw hr (df_feed 0 (df_cons (de_op op_sub l_I0 (de_op op_sub l_I0 (de_var 5) de_int) (de_var 6)) df_nil)))))
      (dss_cons (ds_append 2 (de_tup (da_cons (de_fn c__law_frac hr (df_cons (de_var 6) (df_cons (de_var 5) df_nil))) (da_cons (de_fn c__law_frac hr (df_cons (de_var 7) (df_cons (de_var 5) df_nil))) (da_cons (de_fn c__law_frac hr (df_cons (de_op op_add l_I0 (de_var 6) (de_var 7)) (df_cons (de_op op_mulW l_I de_int (de_var 5)) df_nil))) da_nil)))))
      (dss_one (ds_set 3 scLawWorld.nd (de_op op_cat l_catL (de_comp [("_law_row", 8)] rfl scLawWorld.nd (di_list (de_var 3)) (fun _ _ _ _ _ => (dg_name 8 scLawWorld.nd)) (fun _ _ _ _ _ => dts_nil) (fun _ _ _ _ _ => (de_op op_catA l_catT (de_var 8) (de_slT (de_ixO 2 (de_var 4)) do_none (do_some de_int)))) (blk_ok (N := ["_law_feed_here", "_law_s", "_law_ends_here", "_law_rows", "_law_side", "_law_bottom", "_law_low", "_law_high", "_law_row", "_law_found", "_law_k", "_law_numbers"]) (sc := defScope sLawWorld) rfl rfl (by decide +kernel))) (de_comp [("_law_row", 8)] rfl scLawWorld.nd (di_list (de_var 3)) (fun _ _ _ _ _ => (dg_name 8 scLawWorld.nd)) (fun _ _ _ _ _ => dts_nil) (fun _ _ _ _ _ => (de_op op_catA l_catT (de_var 8) (de_slT (de_ixO 2 (de_var 4)) (do_some de_int) (do_some de_int)))) (blk_ok (N := ["_law_feed_here", "_law_s", "_law_ends_here", "_law_rows", "_law_side", "_law_bottom", "_law_low", "_law_high", "_law_row", "_law_found", "_law_k", "_law_numbers"]) (sc := defScope sLawWorld) rfl rfl (by decide +kernel)))))))))))
      (dss_freeze 2 (dss_cons (ds_own 9 scLawWorld.nd da_nil)
      (dss_cons (ds_for PassesOwn.never rfl (di_list (de_var 3)) (dg_name 8 scLawWorld.nd)
      (dss_one (ds_insert 9 (da_cons (de_fn c__law_draw hr (df_feed 0 (df_cons (de_op op_add l_I0 (de_lenO 9 B.len) de_int) df_nil))) (da_cons (de_var 8) da_nil)))))
      (dss_cons (ds_for PassesOwn.never rfl (di_range B.range (de_fn c__law_draw hr (df_feed 0 (df_cons de_int df_nil)))) (dg_name 10 scLawWorld.nd)
      (dss_one (ds_append 9 (de_callTy call_tuple_of l_tupOf B.tuple boot_tuple_ (da_cons (de_comp [("_law_numbers", 11)] rfl scLawWorld.nd (di_list (de_var 2)) (fun _ _ _ _ _ => (dg_name 11 scLawWorld.nd)) (fun _ _ _ _ _ => dts_nil) (fun _ _ _ _ _ => (de_ix ix_any l_ix (de_var 11) (de_fn c__law_draw hr (df_feed 0 (df_cons de_int df_nil))))) (blk_ok (N := ["_law_feed_here", "_law_s", "_law_ends_here", "_law_rows", "_law_side", "_law_bottom", "_law_low", "_law_high", "_law_row", "_law_found", "_law_k", "_law_numbers"]) (sc := defScope sLawWorld) rfl rfl (by decide +kernel))) da_nil)))))
      (dss_freeze 9 (dss_one (ds_ret (de_tup (da_cons (de_var 2) (da_cons (de_callTy call_tuple_of l_tupOf B.tuple boot_tuple_ (da_cons (de_var 9) da_nil)) da_nil))))))))))))), ?c⟩
  case len =>
    intro ds G h
    simp only [cWorld] at h
    repeat obtain ⟨_, h⟩ := h
    simp [*]
  case c =>
    intro ds G h0
    obtain ⟨n, rfl, hn, h⟩ := h0
    refine ⟨_, rfl, _, rfl, by omega, by omega, ?_⟩
    show ForD _ _ _ ((List.range n).map fun (i : Nat) => D.int (i : Int)) _
    refine forD_inv (fun (i : Nat) => D.int (i : Int)) (fun rest ρ => ∃ (k : Nat) (ends : List End) (rows : List Pt) (o4 o5 o6 o7 o8 : Option S), rest = (List.range n).drop k ∧ k ≤ n ∧ ends.length = k ∧ (∀ e ∈ ends, EndOk e) ∧ (∀ p ∈ rows, PtOk k p) ∧ rows.length = 2 ^ k ∧ ρ = [some .feed, some (.val (.int n)), some (.own (ends.map eEnd)), some (.val (.lst (rows.map ePt))), o4, o5, o6, o7, o8, none, none, none]) ?_ ?_ _ _ ⟨0, [], [[]], _, _, _, _, _, by simp, by omega, rfl, by simp, by simp [PtOk], rfl, rfl⟩
    · rintro s rest ρ N hN ⟨k, ends, rows, o4, o5, o6, o7, o8, hr, hk, hel, he, hrw, hrl, rfl⟩
      have hkn : k < n := by
        rcases Nat.lt_or_ge k n with h | h
        · exact h
        · rw [List.drop_of_length_le (by simpa using h)] at hr
          cases hr
      have hks : s = k ∧ rest = (List.range n).drop (k + 1) := by
        rw [List.drop_eq_getElem_cons (by simpa using hkn)] at hr
        simp at hr
        exact hr
      obtain ⟨rfl, hrest⟩ := hks
      have hrl4 : rows.length ≤ 2 := by
        rw [hrl]
        have : s = 0 ∨ s = 1 := by omega
        rcases this with rfl | rfl <;> decide
      have hbot : ∀ r : Int, 0 ≤ r → r < 5 → ∃ b : Int, ixD (.lst [.int 5, .int 7, .int 12, .int 97, .int 499999999994]) (.int r) = some (.int b) ∧ 5 ≤ b ∧ b ≤ 499999999994 := fun r h0 h1 => by
        have : r = 0 ∨ r = 1 ∨ r = 2 ∨ r = 3 ∨ r = 4 := by omega
        rcases this with rfl | rfl | rfl | rfl | rfl <;> exact ⟨_, rfl, by decide, by decide⟩
      refine ⟨rfl, 5, rfl, by decide, by decide, fun r hr0 hr1 => ?_⟩
      obtain ⟨b, hb, hb5, hb9⟩ := hbot r hr0 hr1
      refine ⟨_, hb, ?_⟩
      simp [-dLc]
      refine ⟨by omega, by omega, fun r1 h10 h11 => ⟨by omega, by omega, fun r2 h20 h21 => ?_⟩⟩
      have i1 : InOk (mkRat (1 + r1) b.toNat) := in_frac (by omega) (by omega) (by omega)
      have i2 : InOk (mkRat (1 + r1 + 1 + r2) b.toNat) := in_frac (by omega) (by omega) (by omega)
      have i3 : InOk (mkRat (1 + r1 + (1 + r1 + 1 + r2)) (2 * b).toNat) := in_frac (by omega) (by omega) (by omega)
      have b1 := big_lt (i := 1 + r1) (by omega)
      have b2 := big_lt (i := 1 + r1 + 1 + r2) (by omega)
      have b3 := big_lt (i := 1 + r1 + (1 + r1 + 1 + r2)) (by omega)
      have b4 := big_lt (i := b) (by omega)
      have b5 := big_lt (i := 2 * b) (by omega)
      have b6 : CMulW 2 b := mul_ok (n := 50) (m := 50) (by decide) (by omega) (by decide) (by decide) (by decide)
      generalize mkRat (1 + r1) b.toNat = x1 at *
      generalize mkRat (1 + r1 + 1 + r2) b.toNat = x2 at *
      generalize mkRat (1 + r1 + (1 + r1 + 1 + r2)) (2 * b).toNat = x3 at *
      refine ⟨by omega, by omega, b1, b4, by omega, b2, b4, b6, by omega, b3, b5, ?_⟩
      have hix : (ends.map eEnd ++ [.tup [eQ x1, eQ x2, eQ x3]])[s]? = some (.tup [eQ x1, eQ x2, eQ x3]) := by
        rw [List.getElem?_append_right (by simp; omega)]
        simp [hel]
      have hcut0 : DL.cutD [eQ x1, eQ x2, eQ x3] none (some 1) = [eQ x1] := rfl
      have hcut1 : DL.cutD [eQ x1, eQ x2, eQ x3] (some 1) (some 2) = [eQ x2] := rfl
      have hadd : ∀ (p : Pt) (x : Rat), p ∈ rows → InOk x → PtOk (s + 1) (p ++ [x]) := fun p x hp hx => by
        have := hrw p hp
        refine ⟨by simp [this.1], fun y hy => ?_⟩
        rcases List.mem_append.mp hy with hy | hy
        · exact this.2 y hy
        · rw [List.mem_singleton.mp hy]
          exact co_in hx
      refine ⟨_, rfl, _, rfl, by rw [List.length_map]; omega, compD_map ePt (fun p => ePt (p ++ [x1])) rows [] ?_ ?_⟩
      · intro p hp F G hf
        have := (hrw p hp).1
        simp only [wipeD]
        simp [hix, hcut0, ePt] at hf ⊢
        exact ⟨by omega, hf⟩
      · refine ⟨_, rfl, _, rfl, by rw [List.length_map]; omega, compD_map ePt (fun p => ePt (p ++ [x2])) rows [] ?_ ?_⟩
        · intro p hp F G hf
          have := (hrw p hp).1
          simp only [wipeD]
          simp [hix, hcut1, ePt] at hf ⊢
          exact ⟨by omega, hf⟩
        · refine ⟨_, rfl, _, rfl, by simp; omega, ?_⟩
          refine hN _ ⟨s + 1, ends ++ [(x1, x2, x3)], rows.map (fun p => p ++ [x1]) ++ rows.map (fun p => p ++ [x2]), some (.val (.int (s : Int))), some (.val (.int b)), some (.val (.int (1 + r1))), some (.val (.int (1 + r1 + 1 + r2))), o8, hrest, by omega, by simp [hel], fun e he' => ?_, fun p hp => ?_, ?_, ?_⟩
          · rcases List.mem_append.mp he' with h1 | h1
            · exact he e h1
            · rw [List.mem_singleton.mp h1]
              exact ⟨i1, i2, i3⟩
          · rcases List.mem_append.mp hp with h1 | h1
            · obtain ⟨p0, hp0, rfl⟩ := List.mem_map.mp h1
              exact hadd p0 x1 hp0 i1
            · obtain ⟨p0, hp0, rfl⟩ := List.mem_map.mp h1
              exact hadd p0 x2 hp0 i2
          · rw [List.length_append, List.length_map, List.length_map, Nat.pow_succ]
            omega
          · simp only [List.map_append, List.map_map, List.nil_append, List.map_cons, List.map_nil, eEnd]
            rfl
    · rintro ρ ⟨k, ends, rows, o4, o5, o6, o7, o8, hr, hk, hel, he, hrw, hrl, rfl⟩
      have hkn : k = n := by
        have := congrArg List.length hr
        simp at this
        omega
      subst hkn
      have hr4 : 2 ≤ rows.length ∧ rows.length ≤ 4 := by
        rw [hrl]
        rcases hn with rfl | rfl <;> decide
      refine ⟨_, rfl, _, rfl, _, rfl, ?_⟩
      refine forD_inv ePt (fun rest ρ => ∃ (found : List Pt) (o8 : Option S), (∀ p ∈ rest, PtOk k p) ∧ (∀ p ∈ found, PtOk k p) ∧ found.length + rest.length = rows.length ∧ ρ = [some .feed, some (.val (.int k)), some (.val (.lst (ends.map eEnd))), some (.val (.lst (rows.map ePt))), o4, o5, o6, o7, o8, some (.own (found.map ePt)), none, none]) ?_ ?_ _ _ ⟨[], o8, hrw, by simp, by simp, rfl⟩
      · rintro p rest ρ N hN ⟨found, o8, h1, h2, h3, rfl⟩
        simp at h3
        simp
        refine ⟨by omega, by omega, fun r hr0 hr1 => ⟨hr0, by omega, ?_⟩⟩
        have hp := ins_perm found r.toNat p
        refine hN _ ⟨found.take r.toNat ++ [p] ++ found.drop r.toNat, some (.val (ePt p)), fun x hx => h1 x (by simp [hx]), fun x hx => ?_, ?_, by simp⟩
        · rw [hp.mem_iff, List.mem_cons] at hx
          rcases hx with rfl | hx
          · exact h1 x (by simp)
          · exact h2 x hx
        · rw [hp.length_eq, List.length_cons]
          omega
      · rintro ρ ⟨found, o8, h1, h2, h3, rfl⟩
        refine ⟨rfl, 3, rfl, by decide, by decide, fun r hr0 hr1 => ⟨r, rfl, hr0, by omega, ?_⟩⟩
        show ForD _ _ _ ((List.range r.toNat).map fun (i : Nat) => D.int (i : Int)) _
        refine forD_inv (fun (i : Nat) => D.int (i : Int)) (fun rest ρ => ∃ (fd : List Pt) (o10 o11 : Option S), (∀ p ∈ fd, PtOk k p) ∧ fd.length + rest.length = rows.length + r.toNat ∧ rows.length ≤ fd.length ∧ ρ = [some .feed, some (.val (.int k)), some (.val (.lst (ends.map eEnd))), some (.val (.lst (rows.map ePt))), o4, o5, o6, o7, o8, some (.own (fd.map ePt)), o10, o11]) ?_ ?_ _ _ ⟨found, none, none, h2, by simp at h3 ⊢; omega, by simp at h3; omega, rfl⟩
        · rintro i rest ρ N hN ⟨fd, o10, o11, g1, g2, g3, rfl⟩
          simp at g2
          refine ⟨_, rfl, by rw [List.length_map]; omega, _, rfl, _, rfl, by rw [List.length_map]; omega, compD_rel eEnd (fun e y => ∃ q, y = eQ q ∧ CoOk q) ends [] ?_ ?_⟩
          · intro e hem F G hf
            have he' := he e hem
            simp
            intro r3 h30 h31
            have : r3 = 0 ∨ r3 = 1 ∨ r3 = 2 := by omega
            rcases this with rfl | rfl | rfl
            · exact ⟨_, ix0 _ _, hf _ ⟨_, rfl, co_in he'.1⟩⟩
            · exact ⟨_, ix1 _ _ _, hf _ ⟨_, rfl, co_in he'.2.1⟩⟩
            · exact ⟨_, ix2 _ _ _ _, hf _ ⟨_, rfl, co_in he'.2.2⟩⟩
          · intro ys hys
            obtain ⟨p, rfl, hpl, hpc⟩ := pts_of (n := k) _ (fun _ _ h => h) hys
            refine ⟨_, rfl, ?_⟩
            refine hN _ ⟨fd ++ [p], some (.val (.int i)), o11, fun x hx => ?_, by simp; omega, by simp; omega, by simp [ePt]⟩
            rcases List.mem_append.mp hx with hx | hx
            · exact g1 x hx
            · rw [List.mem_singleton.mp hx]
              exact ⟨by omega, hpc⟩
        · rintro ρ ⟨fd, o10, o11, g1, g2, g3, rfl⟩
          simp at g2
          simp
          exact h ends fd hel he g1 (by omega) (by omega)
abbrev sLawShadows : Stmt := topS 98
theorem scLawShadows : FnScope ["_law_feed_here", "_law_papers", "_law_number", "_law_out", "_law_family", "_law_some", "_law_paper", "_law_fewer", "_law_point"] ["_law_feed_here", "_law_papers", "_law_number"] (defScope sLawShadows) := ⟨rfl, rfl, rfl, by decide +kernel, rfl, by decide +kernel, by decide +kernel⟩
structure Paper where
  f : Fam
  pts : List Pt
  T : Tr
def ePap (p : Paper) : D := .tup [eF p.f, ePts p.pts, eTr p.T]
@[simp] def cShadows : Ct := fun ds F => ∃ (ps : List Paper) (num : Rat), ds = [.feed, .lst (ps.map ePap), eQ num] ∧ (∀ p ∈ ps, (∀ x ∈ p.pts, x.length = 2) ∧ p.pts.length ≤ 8 ∧ TrOk 2 p.f p.T ∧ ht p.T ≤ 19 ∧ ∀ o, o < 2 → HoldOk p.f 1 (p.pts.map (dropP o)) num (shadow p.f o p.T)) ∧ F (.bl true)
theorem ok__law_shadows (d : Def K mg "_law_shadows" "_law_shadows" sLawShadows ["_law_feed_here", "_law_papers", "_law_number"]) (B : Blt mg) (c__law_draw : Cal P w K mg base "_law_draw" 1 ["_law_feed_here", "_law_many"] cDraw) (c__law_holds : Cal P w K mg base "_law_holds" 47 ["_law_pts", "_law_family", "_law_number", "_law_paper"] cHolds) (c_even_shadow : Cal P w K mg base "even_shadow" 23 ["family", "paper", "side"] (cShadow 20)) : Cal P w K mg base "_law_shadows" 48 ["_law_feed_here", "_law_papers", "_law_number"] cShadows := by
  refine cal_of d scLawShadows ?len ⟨_, fun f cdv A outer s H E hr => (dss_cons (ds_set 3 scLawShadows.nd (de_fn c__law_draw hr (df_feed 0 (df_cons de_int df_nil))))
      (dss_cons (ds_for PassesOwn.never rfl (di_list (de_var 1)) (dg_tup (n := 3) rfl (dgs_cons (dg_name 4 scLawShadows.nd) (dgs_cons (dg_name 5 scLawShadows.nd) (dgs_cons (dg_name 6 scLawShadows.nd) dgs_nil))))
      (dss_cons (ds_set 7 scLawShadows.nd (de_callTy call_tuple_of l_tupOf B.tuple boot_tuple_ (da_cons (de_comp [("_law_point", 8)] rfl scLawShadows.nd (di_tup (de_var 5)) (fun _ _ _ _ _ => (dg_name 8 scLawShadows.nd)) (fun _ _ _ _ _ => dts_nil) (fun _ _ _ _ _ => (de_op op_catA l_catT (de_slT (de_var 8) do_none (do_some (de_var 3))) (de_slT (de_var 8) (do_some (de_op op_add l_I0 (de_var 3) de_int)) do_none))) (blk_ok (N := ["_law_feed_here", "_law_papers", "_law_number", "_law_out", "_law_family", "_law_some", "_law_paper", "_law_fewer", "_law_point"]) (sc := defScope sLawShadows) rfl rfl (by decide +kernel))) da_nil)))
      (dss_one (ds_if (dt_not (dt_val (de_fn c__law_holds hr (df_cons (de_var 7) (df_cons (de_var 4) (df_cons (de_var 2) (df_cons (de_fn c_even_shadow hr (df_cons (de_var 4) (df_cons (de_var 6) (df_cons (de_var 3) df_nil)))) df_nil)))))))
      (dss_one (ds_ret de_bl))
      dss_nil))))
      (dss_one (ds_ret de_bl)))), ?c⟩
  case len =>
    intro ds G h
    simp only [cShadows] at h
    repeat obtain ⟨_, h⟩ := h
    simp [*]
  case c =>
    intro ds G h0
    obtain ⟨ps, num, rfl, hp, h⟩ := h0
    refine ⟨rfl, 2, rfl, by decide, by decide, fun r hr0 hr1 => ?_⟩
    obtain ⟨o, rfl⟩ := Int.eq_ofNat_of_zero_le hr0
    have ho : o < 2 := by omega
    refine ⟨_, rfl, _, rfl, ?_⟩
    refine forD_inv ePap (fun rest ρ => ∃ o4 o5 o6 o7 o8 : Option S, (∀ p ∈ rest, p ∈ ps) ∧ ρ = [some .feed, some (.val (.lst (ps.map ePap))), some (.val (eQ num)), some (.val (.int (o : Int))), o4, o5, o6, o7, o8]) ?_ ?_ _ _ ⟨_, _, _, _, _, fun p hp => hp, rfl⟩
    · rintro ⟨f, pts, T⟩ rest ρ N hN ⟨o4, o5, o6, o7, o8, hr, rfl⟩
      obtain ⟨q1, q2, q3, q4, q5⟩ := hp _ (hr ⟨f, pts, T⟩ (by simp))
      simp only at q1 q2 q3 q4 q5
      have hN' := fun a b c d e => hN [some .feed, some (.val (.lst (ps.map ePap))), some (.val (eQ num)), some (.val (.int (o : Int))), a, b, c, d, e] ⟨a, b, c, d, e, fun p hp => hr p (by simp [hp]), rfl⟩
      refine ⟨_, rfl, rfl, _, _, rfl, _, _, rfl, _, _, rfl, rfl, ?_⟩
      refine ⟨_, rfl, _, rfl, by rw [List.length_map]; exact Nat.le_trans q2 (by decide), compD_map ePt (fun p => ePt (dropP o p)) pts [] ?_ ?_⟩
      · intro p hpm F G hf
        have hpl := q1 p hpm
        simp only [wipeD]
        have e1 : DL.cutD (p.map eQ) none (some (o : Int)) = (p.take o).map eQ := by rw [cut_to (by simp; omega), List.map_take]
        have e2 : DL.cutD (p.map eQ) (some ((o : Int) + 1)) none = (p.drop (o + 1)).map eQ := by rw [cut_from1 (by simp; omega), List.map_drop]
        simp [ePt, e1, e2, dropP] at hf ⊢
        rw [← List.map_take, ← List.map_drop] at hf
        exact ⟨by omega, by simpa using hf⟩
      · refine ⟨_, rfl, ?_⟩
        simp [-cShadow, -cHolds]
        refine ⟨f, T, o, 2, rfl, q3, by omega, by omega, ?_⟩
        refine ⟨f, 1, pts.map (dropP o), num, shadow f o T, ?_, q5 o ho, ?_⟩
        · simp [ePts]
        · simp
          exact hN' _ _ _ _ _
    · rintro ρ ⟨o4, o5, o6, o7, o8, hr, rfl⟩
      simp
      exact h
end
end EP

set_option Elab.async false
set_option linter.all false
set_option maxRecDepth 100000
set_option maxHeartbeats 4000000
namespace EP
open PySem PySem.Spec PyProof.Rows L2 DL
def spFeed (K : PySem.W.Frag) : Sp := fun vs H Q _ => ∃ (a : Addr) (ns : List Int), vs = [.ref a] ∧ SqL K H a (ns.map V.int) ∧ ∀ (f c : Addr) (ms : List Int) (H' : Hp), ms.length ≤ 63 → c ≠ f → H' c = some (.lst (ms.map V.int)) → H' f = some (.dK (feedKvs c 0 0 0)) → Q (.ref f) H'
section
variable {P : Program} {w : World} {K : PySem.W.Frag} {mg : Str → Option Value} {base : Heap}
abbrev sLawFeed : Stmt := topS 80
theorem scLawFeed : FnScope ["_law_script"] ["_law_script"] (defScope sLawFeed) := ⟨rfl, rfl, rfl, by decide +kernel, rfl, by decide +kernel, by decide +kernel⟩
theorem ok_feed (d : Def K mg "_law_feed" "_law_feed" sLawFeed ["_law_script"]) (B : Blt mg) : ∃ f fd, FnOk P w K mg base CX0 1 f fd ["_law_script"] (spFeed K) ∧ mg "_law_feed" = some (.ref f) ∧ PySem.W.keepIn K (.ref f) = true ∧ Binds K fd ["_law_script"] [] := by
  obtain ⟨f, fd, F, m, b⟩ := d
  refine ⟨f, fd, ?_, m, F.kp, b⟩
  refine F.ok scLawFeed (fun vs H Q E h => ?_) (fun cdv A outer s H vs Q E hr h => ?_)
  · obtain ⟨a, ns, rfl, _⟩ := h
    rfl
  obtain ⟨a, ns, rfl, hS, q⟩ := h
  refine ⟨_, pss_one (ps_ret (pe_disp (pps_cons pe_str (pe_callTy call_list_of rfl B.list PyProof.Rows.boot_list (pa_cons (pe_slice sl_list (pe_var (i := 0) rfl (Or.inl rfl) (by decide) (by decide)) po_none (po_some pe_int)) pa_nil)) (pps_cons pe_str pe_int (pps_cons pe_str pe_int (pps_cons pe_str pe_int pps_nil)))) rfl rfl (fun z => by cases z) (by decide))), ?_⟩
  intro f hf
  have x1 : Ex H (upd H f (.dK [])) := Ex.new hf
  refine ⟨_, rfl, 63, rfl, a, _, rfl, x1.sqL hS, fun p hp => ?_⟩
  have hpf : p ≠ f := fun e => by rw [e, upd_same] at hp; cases hp
  refine ⟨p, _, rfl, .inl (SqL.of upd_same), fun c hc => ?_⟩
  have hcf : c ≠ f := fun e => by
    rw [e, upd_ne (Ne.symm hpf), upd_same] at hc
    cases hc
  refine ⟨?_, [(.inr "cells", .ref c), (.inr "at", .int 0), (.inr "left", .int 0), (.inr "turn", .int 0)], rfl, (show 4 ≤ 15 by decide), ?_⟩
  · rw [upd_ne (Ne.symm hcf), upd_ne (Ne.symm hpf), upd_same]
  · refine q f c (ns.take 63) _ (by rw [List.length_take]; omega) hcf ?_ upd_same
    have e : cutV (ns.map V.int) none (some 63) = (ns.map V.int).take 63 := by
      unfold cutV
      rw [HT.sIx_none, show (some (63 : Int)) = some ((63 : Nat) : Int) from rfl, HT.sIx_nat]
      simp only [List.drop_zero, Nat.sub_zero]
      rcases Nat.le_total 63 (ns.map V.int).length with h | h
      · rw [Nat.min_eq_left h]
      · rw [Nat.min_eq_right h, List.take_of_length_le (Nat.le_refl _), List.take_of_length_le h]
    rw [upd_ne hcf, upd_same, List.map_take, ← e]
end
end EP

set_option Elab.async false
set_option linter.all false
set_option maxHeartbeats 4000000
namespace EP
/-! ### pointwise -/
def FA {α β : Type} (R : α → β → Prop) (l : List α) (m : List β) : Prop := l.length = m.length ∧ ∀ (i : Nat) (a : α) (b : β), l[i]? = some a → m[i]? = some b → R a b
section
variable {α β : Type} {R S : α → β → Prop}
theorem FA.nil : FA R [] [] := ⟨rfl, fun i a b h => by simp at h⟩
theorem FA.cons {a : α} {b : β} {l : List α} {m : List β} (h : R a b) (t : FA R l m) : FA R (a :: l) (b :: m) :=
  ⟨by simp [t.1], fun i x y hx hy => by
    cases i with
    | zero =>
      simp at hx hy
      rw [← hx, ← hy]
      exact h
    | succ i => exact t.2 i x y (by simpa using hx) (by simpa using hy)⟩
theorem FA.inv {a : α} {b : β} {l : List α} {m : List β} (h : FA R (a :: l) (b :: m)) : R a b ∧ FA R l m :=
  ⟨h.2 0 a b rfl rfl, by have := h.1; simpa using this, fun i x y hx hy => h.2 (i + 1) x y (by simpa using hx) (by simpa using hy)⟩
theorem FA.imp {l : List α} {m : List β} (h : FA R l m) (k : ∀ a ∈ l, ∀ b ∈ m, R a b → S a b) : FA S l m :=
  ⟨h.1, fun i a b ha hb => k a (List.mem_iff_getElem?.mpr ⟨i, ha⟩) b (List.mem_iff_getElem?.mpr ⟨i, hb⟩) (h.2 i a b ha hb)⟩
theorem FA.ind {P : List α → List β → Prop} (h0 : P [] []) (h1 : ∀ a b l m, R a b → FA R l m → P l m → P (a :: l) (b :: m)) : ∀ {l : List α} {m : List β}, FA R l m → P l m
  | [], [], _ => h0
  | a :: l, b :: m, h => h1 a b l m h.inv.1 h.inv.2 (FA.ind h0 h1 h.inv.2)
  | [], b :: m, h => by have := h.1; simp at this
  | a :: l, [], h => by have := h.1; simp at this
theorem FA.modify {l : List α} {m : List β} (h : FA R l m) (s : Nat) (f : α → α) (g : β → β) (k : ∀ a b, l[s]? = some a → m[s]? = some b → R a b → R (f a) (g b)) : FA R (l.modify s f) (m.modify s g) := by
  refine ⟨by rw [List.length_modify, List.length_modify]; exact h.1, fun i a b ha hb => ?_⟩
  rw [List.getElem?_modify] at ha hb
  by_cases e : s = i
  · subst e
    cases qa : l[s]? with
    | none => rw [qa] at ha; simp at ha
    | some x =>
      cases qb : m[s]? with
      | none => rw [qb] at hb; simp at hb
      | some y =>
        rw [qa] at ha
        rw [qb] at hb
        simp at ha hb
        rw [← ha, ← hb]
        exact k x y qa qb (h.2 s x y qa qb)
  · simp [e] at ha hb
    exact h.2 i a b ha hb
theorem FA.modL {l : List α} {m : List β} (h : FA R l m) (s : Nat) (f : α → α) (k : ∀ a b, l[s]? = some a → m[s]? = some b → R a b → R (f a) b) : FA R (l.modify s f) m := by
  have := h.modify s f id k
  rwa [List.modify_id] at this
theorem FA.modR {l : List α} {m : List β} (h : FA R l m) (s : Nat) (g : β → β) (k : ∀ a b, l[s]? = some a → m[s]? = some b → R a b → R a (g b)) : FA R l (m.modify s g) := by
  have := h.modify s id g k
  rwa [List.modify_id] at this
end
/-! ### products, counts -/
def prod {α : Type} (f : α → Rat) : List α → Rat
  | [] => 1
  | a :: l => f a * prod f l
theorem foldl_prod {α : Type} (f : α → Rat) : ∀ (l : List α) (x : Rat), l.foldl (fun v c => v * f c) x = x * prod f l
  | [], x => by simp [prod, Rat.mul_one]
  | a :: l, x => by
    rw [List.foldl_cons, foldl_prod f l (x * f a)]
    simp only [prod]
    rw [Rat.mul_assoc]
theorem vLo_prod (c : Cell) : vLo c = prod CS.lo c := by unfold vLo; rw [foldl_prod, Rat.one_mul]
theorem vHi_prod (c : Cell) : vHi c = prod CS.hi c := by unfold vHi; rw [foldl_prod, Rat.one_mul]
theorem bsize_prod (c : Box) : bsize c = prod BS.size c := by unfold bsize; rw [foldl_prod, Rat.one_mul]
theorem prod_nonneg {α : Type} {f : α → Rat} : ∀ {l : List α}, (∀ a ∈ l, 0 ≤ f a) → 0 ≤ prod f l
  | [], _ => by simp only [prod]; decide
  | a :: l, h => Rat.mul_nonneg (h a (by simp)) (prod_nonneg fun b hb => h b (by simp [hb]))
theorem prod_le {α β : Type} {f : α → Rat} {g : β → Rat} {l : List α} {m : List β} (h : FA (fun a b => 0 ≤ f a ∧ f a ≤ g b) l m) : 0 ≤ prod f l ∧ prod f l ≤ prod g m := by
  refine FA.ind (P := fun l m => 0 ≤ prod f l ∧ prod f l ≤ prod g m) ?_ ?_ h
  · simp only [prod]
    exact ⟨by decide, Rat.le_refl⟩
  · rintro a b l m ⟨h1, h2⟩ _ ⟨h3, h4⟩
    simp only [prod]
    refine ⟨Rat.mul_nonneg h1 h3, ?_⟩
    exact Rat.le_trans (Rat.mul_le_mul_of_nonneg_right h2 h3) (Rat.mul_le_mul_of_nonneg_left h4 (Rat.le_trans h1 h2))
theorem mk_le {k l : Int} {n : Nat} (h : k ≤ l) (hn : 0 < n) : mkRat k n ≤ mkRat l n := by
  have h1 : (0 : Rat) < (n : Rat) := by exact_mod_cast hn
  rw [Rat.mkRat_eq_div, Rat.mkRat_eq_div]
  have h2 : (k : Rat) ≤ (l : Rat) := by exact_mod_cast h
  refine Rat.not_lt.mp fun z => ?_
  rw [Rat.lt_div_iff h1] at z
  rw [Rat.div_mul_cancel (by grind)] at z
  exact absurd h2 (Rat.not_le.mpr z)
def cM (pts : List Pt) (cell : Cell) : Nat := pts.countP (allM cell)
def GoodP (pts : List Pt) : Prop := ∀ p ∈ pts, ∀ x ∈ p, 0 ≤ x ∧ x < 1
theorem cnt_M {pts : List Pt} {cell : Cell} (h : CellG cell) : cntS pts cell + cntN pts cell = cM pts cell := by
  have hsm : ∀ p, allS cell p = true → allM cell p = true := fun p hp => by
    unfold allS allM at *
    rw [List.all_eq_true] at *
    exact fun z hz => h z.2 (List.of_mem_zip (a := z.1) (b := z.2) hz).2 z.1 (hp z hz)
  unfold cntS cntN cM
  induction pts with
  | nil => rfl
  | cons p pts ih =>
    simp only [List.countP_cons]
    have := hsm p
    cases e1 : allS cell p <;> cases e2 : allM cell p <;> simp [e1, e2] at this ⊢ <;> omega
/-- side d tells less than side c -/
structure LE1 (c d : CS) : Prop where
  maybe : ∀ x : Rat, 0 ≤ x → x < 1 → d.maybe x = true → c.maybe x = true
  sure : ∀ x : Rat, 0 ≤ x → x < 1 → c.sure x = true → d.sure x = true
  lo0 : 0 ≤ c.lo
  lo : c.lo ≤ d.lo
  hi0 : 0 ≤ d.hi
  hi : d.hi ≤ c.hi
theorem all_zip {β : Type} {p : Pt} {l m : List β} {f g : β → Rat → Bool} (hl : l.length = m.length) (h : ∀ (i : Nat) (a b : β) (x : Rat), l[i]? = some a → m[i]? = some b → x ∈ p → f a x = true → g b x = true) (ha : (p.zip l).all (fun z => f z.2 z.1) = true) : (p.zip m).all (fun z => g z.2 z.1) = true := by
  rw [List.all_eq_true] at ha ⊢
  intro z hz
  obtain ⟨i, hi⟩ := List.mem_iff_getElem?.mp hz
  rw [List.getElem?_zip_eq_some] at hi
  obtain ⟨h1, h2⟩ := hi
  have hlt : i < l.length := by
    rw [hl]
    exact (List.getElem?_eq_some_iff.mp h2).1
  have h3 : l[i]? = some l[i] := List.getElem?_eq_getElem hlt
  refine h i l[i] z.2 z.1 h3 h2 (List.mem_iff_getElem?.mpr ⟨i, h1⟩) ?_
  exact ha (z.1, l[i]) (List.mem_iff_getElem?.mpr ⟨i, List.getElem?_zip_eq_some.mpr ⟨h1, h3⟩⟩)
theorem leaf_le {pts : List Pt} {c d : Cell} (hp : GoodP pts) (hn : 0 < pts.length) (h : FA LE1 c d) (hc : CellG c) (hd : CellG d) : overN pts d ≤ overN pts c ∧ lackN pts d ≤ lackN pts c := by
  have v1 := (prod_le (f := CS.lo) (g := CS.lo) (h.imp fun a _ b _ r => ⟨r.lo0, r.lo⟩)).2
  have v2 := (prod_le (f := CS.hi) (g := CS.hi) (l := d) (m := c) ⟨h.1.symm, fun i a b ha hb => let r := h.2 i b a hb ha; ⟨r.hi0, r.hi⟩⟩).2
  have c1 : cM pts d ≤ cM pts c := List.countP_mono_left fun p hpm ha => all_zip (f := CS.maybe) (g := CS.maybe) h.1.symm (fun i a b x h1 h2 hx => (h.2 i b a h2 h1).maybe x (hp p hpm x hx).1 (hp p hpm x hx).2) ha
  have c2 : cntS pts c ≤ cntS pts d := List.countP_mono_left fun p hpm ha => all_zip (f := CS.sure) (g := CS.sure) h.1 (fun i a b x h1 h2 hx => (h.2 i a b h1 h2).sure x (hp p hpm x hx).1 (hp p hpm x hx).2) ha
  unfold overN lackN
  rw [vLo_prod, vLo_prod, vHi_prod, vHi_prod]
  have e1 := cnt_M (pts := pts) hc
  have e2 := cnt_M (pts := pts) hd
  have m1 := mk_le (k := (cntS pts d : Int) + cntN pts d) (l := (cntS pts c : Int) + cntN pts c) (n := pts.length) (by omega) hn
  have m2 := mk_le (k := (cntS pts c : Int)) (l := (cntS pts d : Int)) (n := pts.length) (by omega) hn
  constructor
  · grind
  · grind
end EP

set_option Elab.async false
set_option linter.all false
set_option maxHeartbeats 4000000
namespace EP
/-! ### parts of cells -/
def In1 (r s : Rat × Rat) : Prop := s.1 ≤ r.1 ∧ r.2 ≤ s.2
structure SubC (c d : CS) : Prop where
  w : c.w = d.w ∨ d.w = .un
  r0 : In1 c.r0 d.r0
  r1 : In1 c.r1 d.r1
theorem In1.refl (r : Rat × Rat) : In1 r r := ⟨Rat.le_refl, Rat.le_refl⟩
theorem In1.trans {r s t : Rat × Rat} (a : In1 r s) (b : In1 s t) : In1 r t := ⟨Rat.le_trans b.1 a.1, Rat.le_trans a.2 b.2⟩
theorem SubC.refl (c : CS) : SubC c c := ⟨.inl rfl, .refl _, .refl _⟩
theorem SubC.trans {c d e : CS} (a : SubC c d) (b : SubC d e) : SubC c e := ⟨by
  rcases b.w with h | h
  · rcases a.w with h2 | h2
    · exact .inl (h2.trans h)
    · exact .inr (h ▸ h2)
  · exact .inr h, a.r0.trans b.r0, a.r1.trans b.r1⟩
/-- ranges in order, from -1 to 1 -/
def Rg (r : Rat × Rat) : Prop := -1 ≤ r.1 ∧ r.1 < r.2 ∧ r.2 ≤ 1
def CellB (cell : Cell) : Prop := ∀ c ∈ cell, Rg c.r0 ∧ Rg c.r1
theorem CellB.r {cell : Cell} (h : CellB cell) : CellR cell := fun c hc => ⟨(h c hc).1.2.1, (h c hc).2.2.1⟩
theorem m0_cases (x : Rat) : m0 x = if x < 0 then 0 else x := rfl
theorem lo_nonneg {c : CS} (h0 : Rg c.r0) (h1 : Rg c.r1) : 0 ≤ c.lo := by
  obtain ⟨w, r0, r1⟩ := c
  obtain ⟨a1, a2, a3⟩ := h0
  obtain ⟨b1, b2, b3⟩ := h1
  simp only at a1 a2 a3 b1 b2 b3
  cases w <;> simp [CS.lo, between, m0] <;> grind
theorem hi_nonneg {c : CS} (h0 : Rg c.r0) (h1 : Rg c.r1) : 0 ≤ c.hi := by
  obtain ⟨w, r0, r1⟩ := c
  obtain ⟨a1, a2, a3⟩ := h0
  obtain ⟨b1, b2, b3⟩ := h1
  simp only at a1 a2 a3 b1 b2 b3
  cases w <;> simp [CS.hi, between, m0] <;> grind
theorem sub_le1 {c d : CS} (h : SubC c d) (hw : d.w ≠ .un) (g0 : Rg c.r0) (g1 : Rg c.r1) (k0 : Rg d.r0) (k1 : Rg d.r1) : LE1 d c := by
  have ew : c.w = d.w := h.w.resolve_right hw
  refine ⟨fun x _ _ hm => ?_, fun x _ _ hs => ?_, lo_nonneg k0 k1, ?_, hi_nonneg g0 g1, ?_⟩
  · obtain ⟨w, r0, r1⟩ := c
    obtain ⟨w', s0, s1⟩ := d
    obtain ⟨h1, ⟨h2, h3⟩, ⟨h4, h5⟩⟩ := h
    simp only at ew h1 h2 h3 h4 h5
    subst ew
    cases w <;> simp [CS.maybe] at hm ⊢ <;> grind
  · obtain ⟨w, r0, r1⟩ := c
    obtain ⟨w', s0, s1⟩ := d
    obtain ⟨h1, ⟨h2, h3⟩, ⟨h4, h5⟩⟩ := h
    simp only at ew h1 h2 h3 h4 h5
    subst ew
    cases w <;> simp [CS.sure] at hs ⊢ <;> grind
  · obtain ⟨w, r0, r1⟩ := c
    obtain ⟨w', s0, s1⟩ := d
    obtain ⟨h1, ⟨h2, h3⟩, ⟨h4, h5⟩⟩ := h
    simp only at ew h1 h2 h3 h4 h5
    subst ew
    cases w <;> simp [CS.lo, between, m0] <;> grind
  · obtain ⟨w, r0, r1⟩ := c
    obtain ⟨w', s0, s1⟩ := d
    obtain ⟨h1, ⟨h2, h3⟩, ⟨h4, h5⟩⟩ := h
    simp only at ew h1 h2 h3 h4 h5
    subst ew
    cases w <;> simp [CS.hi, between, m0] <;> grind
def Sub (c d : Cell) : Prop := FA SubC c d
theorem Sub.refl (c : Cell) : Sub c c := ⟨rfl, fun i a b ha hb => by rw [ha] at hb; cases hb; exact .refl _⟩
theorem Sub.trans {c d e : Cell} (h : Sub c d) (k : Sub d e) : Sub c e := ⟨h.1.trans k.1, fun i a b ha hb => by
  have hi : i < d.length := by
    rw [← h.1]
    exact (List.getElem?_eq_some_iff.mp ha).1
  exact (h.2 i a _ ha (List.getElem?_eq_getElem hi)).trans (k.2 i _ b (List.getElem?_eq_getElem hi) hb)⟩
theorem sub_leaf {pts : List Pt} {c d : Cell} (hp : GoodP pts) (hn : 0 < pts.length) (h : Sub c d) (hc : CellB c) (hd : CellB d) (hw : ∀ x ∈ d, x.w ≠ .un) : overN pts c ≤ overN pts d ∧ lackN pts c ≤ lackN pts d :=
  leaf_le hp hn ⟨h.1.symm, fun i a b ha hb => by
    have ma := List.mem_iff_getElem?.mpr ⟨i, ha⟩
    have mb := List.mem_iff_getElem?.mpr ⟨i, hb⟩
    exact sub_le1 (h.2 i b a hb ha) (hw a ma) (hc b mb).1 (hc b mb).2 (hd a ma).1 (hd a ma).2⟩ hd.r.g hc.r.g
theorem low_sub (q : Bool) (a : Rat) (c : CS) (h : a ≤ (c.rng q).2) : SubC (c.low q a) c := by
  obtain ⟨w, r0, r1⟩ := c
  cases q
  · exact ⟨.inl rfl, ⟨Rat.le_refl, h⟩, .refl _⟩
  · exact ⟨.inl rfl, .refl _, ⟨Rat.le_refl, h⟩⟩
theorem high_sub (q : Bool) (a : Rat) (c : CS) (h : (c.rng q).1 ≤ a) : SubC (c.high q a) c := by
  obtain ⟨w, r0, r1⟩ := c
  cases q
  · exact ⟨.inl rfl, ⟨h, Rat.le_refl⟩, .refl _⟩
  · exact ⟨.inl rfl, .refl _, ⟨h, Rat.le_refl⟩⟩
theorem low_low {q : Bool} {a : Rat} {c d : CS} (h : SubC c d) : SubC (c.low q a) (d.low q a) := by
  obtain ⟨w, r0, r1⟩ := c
  obtain ⟨w', s0, s1⟩ := d
  obtain ⟨h1, h2, h3⟩ := h
  cases q
  · exact ⟨h1, ⟨h2.1, Rat.le_refl⟩, h3⟩
  · exact ⟨h1, h2, ⟨h3.1, Rat.le_refl⟩⟩
theorem high_high {q : Bool} {a : Rat} {c d : CS} (h : SubC c d) : SubC (c.high q a) (d.high q a) := by
  obtain ⟨w, r0, r1⟩ := c
  obtain ⟨w', s0, s1⟩ := d
  obtain ⟨h1, h2, h3⟩ := h
  cases q
  · exact ⟨h1, ⟨Rat.le_refl, h2.2⟩, h3⟩
  · exact ⟨h1, h2, ⟨Rat.le_refl, h3.2⟩⟩
theorem to_high {q : Bool} {a : Rat} {c d : CS} (h : SubC c d) (ha : a ≤ (c.rng q).1) : SubC c (d.high q a) := by
  obtain ⟨w, r0, r1⟩ := c
  obtain ⟨w', s0, s1⟩ := d
  obtain ⟨h1, h2, h3⟩ := h
  cases q
  · exact ⟨h1, ⟨ha, h2.2⟩, h3⟩
  · exact ⟨h1, h2, ⟨ha, h3.2⟩⟩
theorem to_low {q : Bool} {a : Rat} {c d : CS} (h : SubC c d) (ha : (c.rng q).2 ≤ a) : SubC c (d.low q a) := by
  obtain ⟨w, r0, r1⟩ := c
  obtain ⟨w', s0, s1⟩ := d
  obtain ⟨h1, h2, h3⟩ := h
  cases q
  · exact ⟨h1, ⟨h2.1, ha⟩, h3⟩
  · exact ⟨h1, h2, ⟨h3.1, ha⟩⟩
theorem CellB.low {cell : Cell} {s : Nat} {q : Bool} {a : Rat} (h : CellB cell) (h1 : ((getC cell s).rng q).1 < a) (h2 : a < ((getC cell s).rng q).2) : CellB (cell.modify s (CS.low q a)) := fun c hc => by
  rcases mem_modify hc with hc | ⟨y, hy, e, rfl⟩
  · exact h c hc
  · obtain ⟨⟨a1, a2, a3⟩, ⟨b1, b2, b3⟩⟩ := h y hy
    rw [getC_of e] at h1 h2
    cases q
    · exact ⟨⟨a1, h1, Rat.le_trans (Rat.le_of_lt h2) a3⟩, ⟨b1, b2, b3⟩⟩
    · exact ⟨⟨a1, a2, a3⟩, ⟨b1, h1, Rat.le_trans (Rat.le_of_lt h2) b3⟩⟩
theorem CellB.high {cell : Cell} {s : Nat} {q : Bool} {a : Rat} (h : CellB cell) (h1 : ((getC cell s).rng q).1 < a) (h2 : a < ((getC cell s).rng q).2) : CellB (cell.modify s (CS.high q a)) := fun c hc => by
  rcases mem_modify hc with hc | ⟨y, hy, e, rfl⟩
  · exact h c hc
  · obtain ⟨⟨a1, a2, a3⟩, ⟨b1, b2, b3⟩⟩ := h y hy
    rw [getC_of e] at h1 h2
    cases q
    · exact ⟨⟨Rat.le_trans a1 (Rat.le_of_lt h1), h2, a3⟩, ⟨b1, b2, b3⟩⟩
    · exact ⟨⟨a1, a2, a3⟩, ⟨Rat.le_trans b1 (Rat.le_of_lt h1), h2, b3⟩⟩
theorem CellB.word {cell : Cell} {s : Nat} {w : Wd} (h : CellB cell) : CellB (cell.modify s (CS.word w)) := fun c hc => by
  rcases mem_modify hc with hc | ⟨y, hy, e, rfl⟩
  · exact h c hc
  · exact h y hy
/-! ### joined -/
theorem cM_app (P R : List Pt) (cell : Cell) : cM (P ++ R) cell = cM P cell + cM R cell := List.countP_append
theorem cS_app (P R : List Pt) (cell : Cell) : cntS (P ++ R) cell = cntS P cell + cntS R cell := List.countP_append
theorem mk_join (a b : Int) (m n : Nat) (hm : 0 < m) (hn : 0 < n) (v : Rat) : (mkRat (a + b) (m + n) - v) * ((m : Rat) + n) = (mkRat a m - v) * m + (mkRat b n - v) * n := by
  have h1 : (m : Rat) ≠ 0 := by
    have : (0 : Rat) < (m : Rat) := by exact_mod_cast hm
    grind
  have h2 : (n : Rat) ≠ 0 := by
    have : (0 : Rat) < (n : Rat) := by exact_mod_cast hn
    grind
  have h3 : ((m : Rat) + n) ≠ 0 := by
    have : (0 : Rat) < (m : Rat) := by exact_mod_cast hm
    have : (0 : Rat) < (n : Rat) := by exact_mod_cast hn
    grind
  rw [Rat.mkRat_eq_div, Rat.mkRat_eq_div, Rat.mkRat_eq_div, Rat.intCast_add, Rat.natCast_add]
  have e1 := Rat.div_mul_cancel (a := (a : Rat) + b) h3
  have e2 := Rat.div_mul_cancel (a := (a : Rat)) h1
  have e3 := Rat.div_mul_cancel (a := (b : Rat)) h2
  grind
structure JN (m n : Nat) (x y z : Rat) : Prop where
  hm : 0 < m
  hn : 0 < n
  eq : z * ((m : Rat) + n) = x * m + y * n
theorem leaf_join {P R : List Pt} {x y z : Rat} (j : JN P.length R.length x y z) {cell : Cell} (hg : CellG cell) (h1 : overN P cell ≤ x ∧ lackN P cell ≤ x) (h2 : overN R cell ≤ y ∧ lackN R cell ≤ y) : overN (P ++ R) cell ≤ z ∧ lackN (P ++ R) cell ≤ z := by
  have hm : (0 : Rat) < (P.length : Rat) := by exact_mod_cast j.hm
  have hn : (0 : Rat) < (R.length : Rat) := by exact_mod_cast j.hn
  have hmn : (0 : Rat) < (P.length : Rat) + R.length := by grind
  have a1 := Rat.mul_le_mul_of_nonneg_right h1.1 (Rat.le_of_lt hm)
  have a2 := Rat.mul_le_mul_of_nonneg_right h1.2 (Rat.le_of_lt hm)
  have a3 := Rat.mul_le_mul_of_nonneg_right h2.1 (Rat.le_of_lt hn)
  have a4 := Rat.mul_le_mul_of_nonneg_right h2.2 (Rat.le_of_lt hn)
  have hz := j.eq
  have e1 := cnt_M (pts := P) hg
  have e2 := cnt_M (pts := R) hg
  have e3 := cnt_M (pts := P ++ R) hg
  have e4 := cM_app P R cell
  have e5 := cS_app P R cell
  have o1 : overN P cell = mkRat (cM P cell : Int) P.length - vLo cell := by unfold overN; rw [show ((cntS P cell : Int) + cntN P cell) = ((cM P cell : Nat) : Int) by omega]
  have o2 : overN R cell = mkRat (cM R cell : Int) R.length - vLo cell := by unfold overN; rw [show ((cntS R cell : Int) + cntN R cell) = ((cM R cell : Nat) : Int) by omega]
  have o3 : overN (P ++ R) cell = mkRat ((cM P cell : Int) + cM R cell) (P.length + R.length) - vLo cell := by unfold overN; rw [show ((cntS (P ++ R) cell : Int) + cntN (P ++ R) cell) = (cM P cell : Int) + cM R cell by omega, List.length_append]
  have o4 : lackN (P ++ R) cell = vHi cell - mkRat ((cntS P cell : Int) + cntS R cell) (P.length + R.length) := by unfold lackN; rw [show (cntS (P ++ R) cell : Int) = (cntS P cell : Int) + cntS R cell by omega, List.length_append]
  have j1 := mk_join (cM P cell) (cM R cell) P.length R.length j.hm j.hn (vLo cell)
  have j2 := mk_join (cntS P cell) (cntS R cell) P.length R.length j.hm j.hn (vHi cell)
  constructor
  · refine Rat.le_of_mul_le_mul_right ?_ hmn
    rw [o3, j1, hz, ← o1, ← o2]
    grind
  · refine Rat.le_of_mul_le_mul_right ?_ hmn
    rw [o4, hz]
    unfold lackN at a2 a4
    grind
theorem getC_sub {c d : Cell} (h : Sub c d) {s : Nat} (hs : s < d.length) : SubC (getC c s) (getC d s) := h.2 s _ _ (get_getC (by rw [h.1]; exact hs)) (get_getC hs)
theorem rng_sub {c d : CS} (h : SubC c d) (q : Bool) : In1 (c.rng q) (d.rng q) := by
  cases q
  · exact h.r0
  · exact h.r1
theorem CellF.len {f : Fam} {cell : Cell} (h : CellF f cell) : cell.length ≤ 2 := by have := h.2; omega
theorem joinL {f : Fam} {P R : List Pt} {x y z : Rat} (j : JN P.length R.length x y z) (hR : GoodP R) :
    ∀ (M : Tr) (cell d : Cell), Sub cell d → CellB cell → CellB d → CellF f cell → (∀ c ∈ cell, c.w ≠ .un) → Wf f d M → need R d M ≤ y → (∀ c', Sub c' cell → CellB c' → overN P c' ≤ x ∧ lackN P c' ≤ x) → Wf f cell (graftL cell M) ∧ need (P ++ R) cell (graftL cell M) ≤ z
  | .leaf, cell, d, hs, hb, hd, hf, hw, wf, hn, hP => by
    refine ⟨hw, mx_le.mpr ?_⟩
    have h2 := mx_le.mp hn
    have h3 := sub_leaf (pts := R) hR j.hn hs hb hd wf
    exact leaf_join j hb.r.g (hP cell (.refl _) hb) ⟨Rat.le_trans h3.1 h2.1, Rat.le_trans h3.2 h2.2⟩
  | .cut s q a A B, cell, d, hs, hb, hd, hf, hw, ⟨w1, w2, w3, w4, w5, w6, w7⟩, hn, hP => by
    obtain ⟨n1, n2⟩ := mx_le.mp hn
    have hsc := getC_sub hs w1
    have hr := rng_sub hsc q
    have hlen : s < cell.length := by rw [hs.1]; exact w1
    simp only [graftL]
    by_cases c1 : ((getC cell s).rng q).1 < a
    · rw [if_pos c1]
      by_cases c2 : a < ((getC cell s).rng q).2
      · rw [if_pos c2]
        have s1 : Sub (cell.modify s (CS.low q a)) (d.modify s (CS.low q a)) := hs.modify s _ _ fun x y hx hy h => low_low h
        have s2 : Sub (cell.modify s (CS.high q a)) (d.modify s (CS.high q a)) := hs.modify s _ _ fun x y hx hy h => high_high h
        have t1 : Sub (cell.modify s (CS.low q a)) cell := (Sub.refl cell).modL s _ fun x y hx hy _ => by
          rw [hx] at hy
          cases hy
          exact low_sub q a x (by rw [getC_of hx] at c2; exact Rat.le_of_lt c2)
        have t2 : Sub (cell.modify s (CS.high q a)) cell := (Sub.refl cell).modL s _ fun x y hx hy _ => by
          rw [hx] at hy
          cases hy
          exact high_sub q a x (by rw [getC_of hx] at c1; exact Rat.le_of_lt c1)
        have hwm : ∀ (g : CS → CS), (∀ c, (g c).w = c.w) → ∀ c ∈ cell.modify s g, c.w ≠ .un := fun g hg c hc => by
          rcases mem_modify hc with hc | ⟨y, hy, e, rfl⟩
          · exact hw c hc
          · rw [hg]
            exact hw y hy
        have k1 := joinL j hR A _ _ s1 (hb.low c1 c2) (hd.low w4 w5) (hf.low w3) (hwm _ (w_low _ _)) w6 n1 fun c' h' b' => hP c' (h'.trans t1) b'
        have k2 := joinL j hR B _ _ s2 (hb.high c1 c2) (hd.high w4 w5) (hf.high w3) (hwm _ (w_high _ _)) w7 n2 fun c' h' b' => hP c' (h'.trans t2) b'
        exact ⟨⟨hlen, w2, w3, c1, c2, k1.1, k2.1⟩, mx_le.mpr ⟨k1.2, k2.2⟩⟩
      · rw [if_neg c2]
        refine joinL j hR A cell _ (hs.modR s _ fun x y hx hy h => ?_) hb (hd.low w4 w5) hf hw w6 n1 hP
        rw [getC_of hx] at c2
        exact to_low h (Rat.not_lt.mp c2)
    · rw [if_neg c1]
      refine joinL j hR B cell _ (hs.modR s _ fun x y hx hy h => ?_) hb (hd.high w4 w5) hf hw w7 n2 hP
      rw [getC_of hx] at c1
      exact to_high h (Rat.not_lt.mp c1)
  | .ways s A B, cell, d, hs, hb, hd, hf, hw, ⟨w1, w2, w3, w6, w7⟩, hn, hP => by
    obtain ⟨n1, n2⟩ := mx_le.mp hn
    have hlen : s < cell.length := by rw [hs.1]; exact w1
    have hmem := getC_mem hlen
    have hcw := hw _ hmem
    have hct : (getC cell s).w ≠ .to := fun e => by
      have := (hf.1 _ hmem).2.mp e
      rw [w2] at this
      cases this
    simp only [graftL]
    rw [if_neg hcw]
    by_cases c2 : (getC cell s).w = .rnd
    · rw [if_pos c2]
      refine joinL j hR B cell _ (hs.modR s _ fun x y hx hy h => ?_) hb hd.word hf hw w7 n2 hP
      rw [getC_of hx] at c2
      exact ⟨.inl c2, h.r0, h.r1⟩
    · rw [if_neg c2]
      have c3 : (getC cell s).w = .frm := by
        cases e : (getC cell s).w <;> simp [e] at hcw hct c2 ⊢
      refine joinL j hR A cell _ (hs.modR s _ fun x y hx hy h => ?_) hb hd.word hf hw w6 n1 hP
      rw [getC_of hx] at c3
      exact ⟨.inl c3, h.r0, h.r1⟩
theorem join {f : Fam} {P R : List Pt} {x y z : Rat} (j : JN P.length R.length x y z) (hp : GoodP P) (hR : GoodP R) (M : Tr) (d : Cell) (hd : CellB d) (wf : Wf f d M) (hn : need R d M ≤ y) :
    ∀ (T : Tr) (cell : Cell), Sub cell d → CellB cell → CellF f cell → Wf f cell T → need P cell T ≤ x → Wf f cell (graft cell T M) ∧ need (P ++ R) cell (graft cell T M) ≤ z
  | .leaf, cell, hs, hb, hf, w, h => by
    have h2 := mx_le.mp h
    refine joinL j hR M cell d hs hb hd hf w wf hn fun c' h' b' => ?_
    have h3 := sub_leaf (pts := P) hp j.hm h' b' hb w
    exact ⟨Rat.le_trans h3.1 h2.1, Rat.le_trans h3.2 h2.2⟩
  | .cut s q a A B, cell, hs, hb, hf, ⟨w1, w2, w3, w4, w5, w6, w7⟩, h => by
    obtain ⟨n1, n2⟩ := mx_le.mp h
    have t1 : Sub (cell.modify s (CS.low q a)) cell := (Sub.refl cell).modL s _ fun x y hx hy _ => by
      rw [hx] at hy
      cases hy
      exact low_sub q a x (by rw [getC_of hx] at w5; exact Rat.le_of_lt w5)
    have t2 : Sub (cell.modify s (CS.high q a)) cell := (Sub.refl cell).modL s _ fun x y hx hy _ => by
      rw [hx] at hy
      cases hy
      exact high_sub q a x (by rw [getC_of hx] at w4; exact Rat.le_of_lt w4)
    have k1 := join j hp hR M d hd wf hn A _ (t1.trans hs) (hb.low w4 w5) (hf.low w3) w6 n1
    have k2 := join j hp hR M d hd wf hn B _ (t2.trans hs) (hb.high w4 w5) (hf.high w3) w7 n2
    exact ⟨⟨w1, w2, w3, w4, w5, k1.1, k2.1⟩, mx_le.mpr ⟨k1.2, k2.2⟩⟩
  | .ways s A B, cell, hs, hb, hf, ⟨w1, w2, w3, w6, w7⟩, h => by
    obtain ⟨n1, n2⟩ := mx_le.mp h
    have hnc : f ≠ .corner := by rw [w2]; simp
    have t : ∀ w, Sub (cell.modify s (CS.word w)) cell := fun w => (Sub.refl cell).modL s _ fun x y hx hy _ => by
      rw [hx] at hy
      cases hy
      rw [getC_of hx] at w3
      exact ⟨.inr w3, .refl _, .refl _⟩
    have k1 := join j hp hR M d hd wf hn A _ ((t _).trans hs) hb.word (hf.word hnc (by simp)) w6 n1
    have k2 := join j hp hR M d hd wf hn B _ ((t _).trans hs) hb.word (hf.word hnc (by simp)) w7 n2
    exact ⟨⟨w1, w2, w3, k1.1, k2.1⟩, mx_le.mpr ⟨k1.2, k2.2⟩⟩
end EP

set_option Elab.async false
set_option linter.all false
set_option maxHeartbeats 4000000
namespace EP
/-! ### heights -/
theorem ht_graftL : ∀ (M : Tr) (cell : Cell), ht (graftL cell M) ≤ ht M
  | .leaf, cell => by simp [graftL, ht]
  | .cut s q a A B, cell => by
    simp only [graftL]
    split
    · split
      · have h1 := ht_graftL A (cell.modify s (CS.low q a))
        have h2 := ht_graftL B (cell.modify s (CS.high q a))
        simp only [ht]
        omega
      · have h1 := ht_graftL A cell
        simp only [ht]
        omega
    · have h1 := ht_graftL B cell
      simp only [ht]
      omega
  | .ways s A B, cell => by
    simp only [graftL]
    split
    · have h1 := ht_graftL A (cell.modify s (CS.word .frm))
      have h2 := ht_graftL B (cell.modify s (CS.word .rnd))
      simp only [ht]
      omega
    · split
      · have h1 := ht_graftL B cell
        simp only [ht]
        omega
      · have h1 := ht_graftL A cell
        simp only [ht]
        omega
theorem ht_graft (M : Tr) : ∀ (T : Tr) (cell : Cell), ht (graft cell T M) ≤ ht T + ht M
  | .leaf, cell => by
    have := ht_graftL M cell
    simp only [graft, ht]
    omega
  | .cut s q a A B, cell => by
    have h1 := ht_graft M A (cell.modify s (CS.low q a))
    have h2 := ht_graft M B (cell.modify s (CS.high q a))
    simp only [graft, ht]
    omega
  | .ways s A B, cell => by
    have h1 := ht_graft M A (cell.modify s (CS.word .frm))
    have h2 := ht_graft M B (cell.modify s (CS.word .rnd))
    simp only [graft, ht]
    omega
theorem ht_inner : ∀ T : Tr, ht (innerT T) ≤ ht T
  | .leaf => by simp [innerT]
  | .cut s q a A B => by
    have := ht_inner A
    have := ht_inner B
    simp only [innerT, ht]
    omega
  | .ways s A B => by
    have := ht_inner A
    simp only [innerT, ht]
    omega
theorem ht_corner : ∀ T : Tr, ht (cornerT T) ≤ ht T
  | .leaf => by simp [cornerT]
  | .cut s q a A B => by
    have := ht_corner A
    have := ht_corner B
    simp only [cornerT]
    split
    · split <;> (simp only [ht]; omega)
    · simp only [ht]
      omega
  | .ways s A B => by
    have := ht_corner A
    simp only [cornerT, ht]
    omega
theorem ht_exch (n : Nat) : ∀ T : Tr, ht (exch n T) = ht T
  | .leaf => rfl
  | .cut s q a A B => by simp only [exch, ht, ht_exch n A, ht_exch n B]
  | .ways s A B => by simp only [exch, ht, ht_exch n A, ht_exch n B]
theorem ht_shadow (f : Fam) (o : Nat) : ∀ T : Tr, ht (shadow f o T) ≤ ht T
  | .leaf => by simp [shadow]
  | .cut s q a A B => by
    have h1 := ht_shadow f o A
    have h2 := ht_shadow f o B
    by_cases c : s = o
    · simp only [shadow, c, if_true]
      by_cases c2 : a < (if f ≠ .corner ∧ q = false then 0 else 1)
      · rw [if_pos c2]; simp only [ht]; omega
      · rw [if_neg c2]; simp only [ht]; omega
    · simp only [shadow, c, if_false, ht]
      omega
  | .ways s A B => by
    have h1 := ht_shadow f o A
    have h2 := ht_shadow f o B
    by_cases c : s = o
    · simp only [shadow, c, if_true, ht]
      omega
    · simp only [shadow, c, if_false, ht]
      omega
theorem trOk_of {f : Fam} : ∀ (T : Tr) (cell : Cell), Wf f cell T → TrOk cell.length f T
  | .leaf, _, _ => trivial
  | .cut s q a A B, cell, ⟨w1, w2, w3, _, _, w6, w7⟩ => ⟨w1, w2, w3, by simpa using trOk_of A _ w6, by simpa using trOk_of B _ w7⟩
  | .ways s A B, cell, ⟨w1, w2, _, w6, w7⟩ => ⟨w1, w2, by simpa using trOk_of A _ w6, by simpa using trOk_of B _ w7⟩
/-! ### told by inner -/
def inn (c : CS) : CS := if c.w = .un then c.word .frm else c
theorem map_modify {α β : Type} (e : α → β) (l : List α) (s : Nat) (f : α → α) (g : β → β) (h : ∀ c, l[s]? = some c → e (f c) = g (e c)) : (l.modify s f).map e = (l.map e).modify s g := by
  apply List.ext_getElem?
  intro i
  rw [List.getElem?_map, List.getElem?_modify, List.getElem?_modify, List.getElem?_map]
  by_cases z : s = i
  · subst z
    cases q : l[s]? with
    | none => rfl
    | some c => simp [h c q]
  · simp [z]
theorem inn_low (q : Bool) (a : Rat) (c : CS) : inn (c.low q a) = (inn c).low q a := by
  unfold inn
  rw [w_low]
  split <;> cases q <;> rfl
theorem inn_high (q : Bool) (a : Rat) (c : CS) : inn (c.high q a) = (inn c).high q a := by
  unfold inn
  rw [w_high]
  split <;> cases q <;> rfl
theorem inn_rng (q : Bool) (c : CS) : (inn c).rng q = c.rng q := by
  unfold inn
  split <;> cases q <;> rfl
theorem getC_map (e : CS → CS) (cell : Cell) {s : Nat} (h : s < cell.length) : getC (cell.map e) s = e (getC cell s) := by
  apply getC_of
  rw [List.getElem?_map, get_getC h]
  rfl
theorem inner_ok {pts : List Pt} : ∀ (T : Tr) (cell : Cell), (∀ c ∈ cell, c.w = .un ∨ c.w = .frm) → Wf .round cell T → Wf .inner (cell.map inn) (innerT T) ∧ need pts (cell.map inn) (innerT T) ≤ need pts cell T ∧ noW (innerT T)
  | .leaf, cell, hw, w => by
    have e : cell.map inn = cell := by
      conv => rhs; rw [← List.map_id cell]
      refine List.map_congr_left fun c hc => ?_
      unfold inn
      rw [if_neg (w c hc)]
      rfl
    rw [e]
    exact ⟨w, Rat.le_refl, trivial⟩
  | .cut s q a A B, cell, hw, ⟨w1, w2, w3, w4, w5, w6, w7⟩ => by
    have hm : ∀ g : CS → CS, (∀ c, (g c).w = c.w) → ∀ c ∈ cell.modify s g, c.w = .un ∨ c.w = .frm := fun g hg c hc => by
      rcases mem_modify hc with hc | ⟨y, hy, e, rfl⟩
      · exact hw c hc
      · rw [hg]
        exact hw y hy
    have k1 := inner_ok (pts := pts) A _ (hm _ (w_low q a)) w6
    have k2 := inner_ok (pts := pts) B _ (hm _ (w_high q a)) w7
    rw [map_modify inn cell s _ (CS.low q a) fun c _ => inn_low q a c] at k1
    rw [map_modify inn cell s _ (CS.high q a) fun c _ => inn_high q a c] at k2
    refine ⟨⟨by simpa using w1, fun _ => by simp, w3, ?_, ?_, k1.1, k2.1⟩, ?_, k1.2.2, k2.2.2⟩
    · rw [getC_map _ _ w1, inn_rng]; exact w4
    · rw [getC_map _ _ w1, inn_rng]; exact w5
    · refine mx_le.mpr ⟨Rat.le_trans k1.2.1 ?_, Rat.le_trans k2.2.1 ?_⟩
      · exact (mx_le.mp Rat.le_refl).1
      · exact (mx_le.mp Rat.le_refl).2
  | .ways s A B, cell, hw, ⟨w1, w2, w3, w6, w7⟩ => by
    have hm : ∀ c ∈ cell.modify s (CS.word .frm), c.w = .un ∨ c.w = .frm := fun c hc => by
      rcases mem_modify hc with hc | ⟨y, hy, e, rfl⟩
      · exact hw c hc
      · exact .inr rfl
    have k1 := inner_ok (pts := pts) A _ hm w6
    have e : (cell.modify s (CS.word .frm)).map inn = cell.map inn := by
      rw [map_modify inn cell s _ id fun c hc => ?_, List.modify_id]
      rw [getC_of hc] at w3
      unfold inn
      rw [if_pos w3]
      rfl
    rw [e] at k1
    exact ⟨k1.1, Rat.le_trans k1.2.1 (mx_le.mp Rat.le_refl).1, k1.2.2⟩
theorem first_inn (n : Nat) : (first n .round).map inn = first n .inner := by
  simp [first, firstC, inn, CS.word]
theorem noW_of : ∀ (T : Tr) (cell : Cell), Wf .inner cell T → noW T
  | .leaf, _, _ => trivial
  | .cut _ _ _ A B, _, ⟨_, _, _, _, _, w6, w7⟩ => ⟨noW_of A _ w6, noW_of B _ w7⟩
  | .ways _ _ _, _, ⟨_, w2, _⟩ => by cases w2
/-! ### told by corner -/
def cor (c : CS) : CS := ⟨.to, c.r1, wh⟩
def CorOk (c : CS) : Prop := c.w = .frm ∧ c.r0.1 < 0 ∧ 0 ≤ c.r0.2 ∧ Rg c.r0 ∧ Rg c.r1
theorem cor_le {c : CS} (h : CorOk c) : LE1 c (cor c) := by
  obtain ⟨w, r0, r1⟩ := c
  obtain ⟨h1, h2, h3, h4, h5⟩ := h
  simp only at h1 h2 h3 h4 h5
  subst h1
  obtain ⟨a1, a2, a3⟩ := h4
  obtain ⟨b1, b2, b3⟩ := h5
  refine ⟨fun x hx _ hm => ?_, fun x hx _ hs => ?_, ?_, ?_, ?_, ?_⟩
  · simp [CS.maybe, cor] at hm ⊢
    grind
  · simp [CS.sure, cor] at hs ⊢
    grind
  · simp [CS.lo, between, m0]
    grind
  · simp [CS.lo, cor, between, m0]
    grind
  · simp [CS.hi, cor, m0]
    grind
  · simp [CS.hi, cor, between, m0]
    grind
theorem cor_low1 (a : Rat) (c : CS) : cor (c.low true a) = (cor c).low false a := rfl
theorem cor_high1 (a : Rat) (c : CS) : cor (c.high true a) = (cor c).high false a := rfl
theorem cor_low0 (a : Rat) (c : CS) : cor (c.low false a) = cor c := rfl
theorem cor_high0 (a : Rat) (c : CS) : cor (c.high false a) = cor c := rfl
theorem rg_wh : Rg wh := ⟨by decide, by decide, by decide⟩
theorem corner_ok {pts : List Pt} (hp : GoodP pts) (hn : 0 < pts.length) : ∀ (T : Tr) (cell : Cell), (∀ c ∈ cell, CorOk c) → Wf .inner cell T → Wf .corner (cell.map cor) (cornerT T) ∧ need pts (cell.map cor) (cornerT T) ≤ need pts cell T
  | .leaf, cell, hc, w => by
    have hb : CellB cell := fun c hm => ⟨(hc c hm).2.2.2.1, (hc c hm).2.2.2.2⟩
    have hb2 : CellB (cell.map cor) := fun c hm => by
      obtain ⟨d, hd, rfl⟩ := List.mem_map.mp hm
      exact ⟨(hc d hd).2.2.2.2, rg_wh⟩
    have hfa : FA LE1 cell (cell.map cor) := ⟨by simp, fun i a b ha hb => by
      rw [List.getElem?_map, ha] at hb
      cases hb
      exact cor_le (hc a (List.mem_iff_getElem?.mpr ⟨i, ha⟩))⟩
    have h := leaf_le hp hn hfa hb.r.g hb2.r.g
    refine ⟨fun c hm e => ?_, ?_⟩
    · obtain ⟨d, hd, rfl⟩ := List.mem_map.mp hm
      cases e
    · have k := mx_le.mp (Rat.le_refl (a := mx (overN pts cell) (lackN pts cell)))
      exact mx_le.mpr ⟨Rat.le_trans h.1 k.1, Rat.le_trans h.2 k.2⟩
  | .ways s A B, _, _, ⟨_, w2, _⟩ => by cases w2
  | .cut s q a A B, cell, hc, ⟨w1, w2, w3, w4, w5, w6, w7⟩ => by
    have kk := mx_le.mp (Rat.le_refl (a := mx (need pts (cell.modify s (CS.low q a)) A) (need pts (cell.modify s (CS.high q a)) B)))
    have hg := hc _ (getC_mem w1)
    cases q with
    | false =>
      simp only [cornerT, if_true]
      by_cases c : a < 0
      · rw [if_pos c]
        have k := corner_ok hp hn B (cell.modify s (CS.high false a)) (fun x hx => ?_) w7
        · rw [map_modify cor cell s _ id fun c _ => cor_high0 a c, List.modify_id] at k
          exact ⟨k.1, Rat.le_trans k.2 kk.2⟩
        · rcases mem_modify hx with hx | ⟨y, hy, e, rfl⟩
          · exact hc x hx
          · obtain ⟨h1, h2, h3, ⟨h4, h5, h6⟩, h7⟩ := hc y hy
            rw [getC_of e] at w4 w5
            exact ⟨h1, c, h3, ⟨Rat.le_trans h4 (Rat.le_of_lt w4), w5, h6⟩, h7⟩
      · rw [if_neg c]
        have k := corner_ok hp hn A (cell.modify s (CS.low false a)) (fun x hx => ?_) w6
        · rw [map_modify cor cell s _ id fun c _ => cor_low0 a c, List.modify_id] at k
          exact ⟨k.1, Rat.le_trans k.2 kk.1⟩
        · rcases mem_modify hx with hx | ⟨y, hy, e, rfl⟩
          · exact hc x hx
          · obtain ⟨h1, h2, h3, ⟨h4, h5, h6⟩, h7⟩ := hc y hy
            rw [getC_of e] at w4 w5
            exact ⟨h1, h2, Rat.not_lt.mp c, ⟨h4, w4, Rat.le_trans (Rat.le_of_lt w5) h6⟩, h7⟩
    | true =>
      simp only [cornerT]
      have k1 := corner_ok hp hn A (cell.modify s (CS.low true a)) (fun x hx => by
        rcases mem_modify hx with hx | ⟨y, hy, e, rfl⟩
        · exact hc x hx
        · obtain ⟨h1, h2, h3, h7, ⟨h4, h5, h6⟩⟩ := hc y hy
          rw [getC_of e] at w4 w5
          exact ⟨h1, h2, h3, h7, ⟨h4, w4, Rat.le_trans (Rat.le_of_lt w5) h6⟩⟩) w6
      have k2 := corner_ok hp hn B (cell.modify s (CS.high true a)) (fun x hx => by
        rcases mem_modify hx with hx | ⟨y, hy, e, rfl⟩
        · exact hc x hx
        · obtain ⟨h1, h2, h3, h7, ⟨h4, h5, h6⟩⟩ := hc y hy
          rw [getC_of e] at w4 w5
          exact ⟨h1, h2, h3, h7, ⟨Rat.le_trans h4 (Rat.le_of_lt w4), w5, h6⟩⟩) w7
      rw [map_modify cor cell s _ (CS.low false a) fun c _ => cor_low1 a c] at k1
      rw [map_modify cor cell s _ (CS.high false a) fun c _ => cor_high1 a c] at k2
      refine ⟨⟨by simpa using w1, (fun z => by cases z), w3, ?_, ?_, k1.1, k2.1⟩, mx_le.mpr ⟨Rat.le_trans k1.2 kk.1, Rat.le_trans k2.2 kk.2⟩⟩
      · rw [getC_map _ _ w1]; exact w4
      · rw [getC_map _ _ w1]; exact w5
theorem first_cor (n : Nat) : (first n .inner).map cor = first n .corner := by
  simp [first, firstC, cor]
theorem first_corOk (n : Nat) : ∀ c ∈ first n .inner, CorOk c := fun c hc => by
  have := List.eq_of_mem_replicate hc
  subst this
  exact ⟨rfl, by decide, by decide, rg_wh, rg_wh⟩
theorem first_B (n : Nat) (f : Fam) : CellB (first n f) := fun c hc => by
  have := List.eq_of_mem_replicate hc
  subst this
  exact ⟨rg_wh, rg_wh⟩
end EP

set_option Elab.async false
set_option linter.all false
set_option maxHeartbeats 4000000
namespace EP
/-! ### sides exchanged (one or two) -/
theorem allS_rev2 (c d : CS) (x y : Rat) : allS [d, c] [y, x] = allS [c, d] [x, y] := by
  simp [allS]
  rw [Bool.and_comm]
theorem allM_rev2 (c d : CS) (x y : Rat) : allM [d, c] [y, x] = allM [c, d] [x, y] := by
  simp [allM]
  rw [Bool.and_comm]
theorem count_rev {pts : List Pt} {c d : CS} (f : Cell → Pt → Bool) (hf : ∀ x y, f [d, c] [y, x] = f [c, d] [x, y]) (h : ∀ p ∈ pts, p.length = 2) : (pts.map List.reverse).countP (f [d, c]) = pts.countP (f [c, d]) := by
  rw [List.countP_map]
  refine List.countP_congr fun p hp => ?_
  match p, h p hp with
  | [x, y], _ =>
    show f [d, c] [y, x] = true ↔ _
    rw [hf]
theorem leaf_rev {pts : List Pt} {c d : CS} (h : ∀ p ∈ pts, p.length = 2) : overN (pts.map List.reverse) [d, c] = overN pts [c, d] ∧ lackN (pts.map List.reverse) [d, c] = lackN pts [c, d] := by
  have e1 : cntS (pts.map List.reverse) [d, c] = cntS pts [c, d] := count_rev allS (allS_rev2 c d) h
  have e2 : cntN (pts.map List.reverse) [d, c] = cntN pts [c, d] := count_rev (fun cell p => !allS cell p && allM cell p) (fun x y => by rw [allS_rev2, allM_rev2]) h
  have e3 : vLo [d, c] = vLo [c, d] := by simp [vLo, Rat.one_mul, Rat.mul_comm]
  have e4 : vHi [d, c] = vHi [c, d] := by simp [vHi, Rat.one_mul, Rat.mul_comm]
  unfold overN lackN
  rw [e1, e2, e3, e4, List.length_map]
  exact ⟨rfl, rfl⟩
theorem exch2 {f : Fam} {pts : List Pt} (h : ∀ p ∈ pts, p.length = 2) : ∀ (T : Tr) (c d : CS), Wf f [c, d] T → Wf f [d, c] (exch 2 T) ∧ need (pts.map List.reverse) [d, c] (exch 2 T) = need pts [c, d] T
  | .leaf, c, d, w => by
    have := leaf_rev (c := c) (d := d) h
    refine ⟨fun x hx => w x (by simp at hx ⊢; exact hx.symm), ?_⟩
    show mx _ _ = mx _ _
    rw [this.1, this.2]
  | .cut s q a A B, c, d, ⟨w1, w2, w3, w4, w5, w6, w7⟩ => by
    have hs : s = 0 ∨ s = 1 := by simp at w1; omega
    rcases hs with rfl | rfl
    · have k1 := exch2 h A (c.low q a) d w6
      have k2 := exch2 h B (c.high q a) d w7
      exact ⟨⟨by simp, w2, w3, w4, w5, k1.1, k2.1⟩, by show mx _ _ = mx _ _; exact congr (congrArg mx k1.2) k2.2⟩
    · have k1 := exch2 h A c (d.low q a) w6
      have k2 := exch2 h B c (d.high q a) w7
      exact ⟨⟨by simp, w2, w3, w4, w5, k1.1, k2.1⟩, by show mx _ _ = mx _ _; exact congr (congrArg mx k1.2) k2.2⟩
  | .ways s A B, c, d, ⟨w1, w2, w3, w6, w7⟩ => by
    have hs : s = 0 ∨ s = 1 := by simp at w1; omega
    rcases hs with rfl | rfl
    · have k1 := exch2 h A (c.word .frm) d w6
      have k2 := exch2 h B (c.word .rnd) d w7
      exact ⟨⟨by simp, w2, w3, k1.1, k2.1⟩, by show mx _ _ = mx _ _; exact congr (congrArg mx k1.2) k2.2⟩
    · have k1 := exch2 h A c (d.word .frm) w6
      have k2 := exch2 h B c (d.word .rnd) w7
      exact ⟨⟨by simp, w2, w3, k1.1, k2.1⟩, by show mx _ _ = mx _ _; exact congr (congrArg mx k1.2) k2.2⟩
theorem exch1 {f : Fam} : ∀ (T : Tr) (c : CS), Wf f [c] T → exch 1 T = T
  | .leaf, c, w => rfl
  | .cut s q a A B, c, ⟨w1, _, _, _, _, w6, w7⟩ => by
    have hs : s = 0 := by simp at w1; omega
    subst hs
    simp only [exch]
    rw [exch1 A (c.low q a) w6, exch1 B (c.high q a) w7]
  | .ways s A B, c, ⟨w1, _, _, w6, w7⟩ => by
    have hs : s = 0 := by simp at w1; omega
    subst hs
    simp only [exch]
    rw [exch1 A (c.word .frm) w6, exch1 B (c.word .rnd) w7]
theorem rev1 {pts : List Pt} (h : ∀ p ∈ pts, p.length = 1) : pts.map List.reverse = pts := by
  conv => rhs; rw [← List.map_id pts]
  refine List.map_congr_left fun p hp => ?_
  match p, h p hp with
  | [x], _ => rfl
theorem exch_ok {f : Fam} {n : Nat} {pts : List Pt} (hn : n = 1 ∨ n = 2) (h : ∀ p ∈ pts, p.length = n) (T : Tr) (w : Wf f (first n f) T) : Wf f (first n f) (exch n T) ∧ need (pts.map List.reverse) (first n f) (exch n T) = need pts (first n f) T := by
  rcases hn with rfl | rfl
  · have e := exch1 T _ (show Wf f [firstC f] T from w)
    rw [e, rev1 h]
    exact ⟨w, rfl⟩
  · exact exch2 h T (firstC f) (firstC f) w
/-! ### the shadow of two sides -/
/-- the side that is dropped -/
def ShOk (f : Fam) (c : CS) : Prop := Rg c.r0 ∧ Rg c.r1 ∧ (f = .corner → c.w = .to ∧ c.r0.1 < 1 ∧ 1 ≤ c.r0.2) ∧ (f ≠ .corner → (c.w = .un ∨ c.w = .frm) ∧ c.r0.1 < 0 ∧ 0 ≤ c.r0.2 ∧ c.r1.1 < 1 ∧ 1 ≤ c.r1.2)
theorem sh_leaf {f : Fam} {c : CS} (h : ShOk f c) (hw : c.w ≠ .un) : (∀ x, 0 ≤ x → x < 1 → c.maybe x = true) ∧ 0 ≤ c.lo ∧ c.lo ≤ 1 ∧ 1 ≤ c.hi := by
  obtain ⟨h1, h2, h3, h4⟩ := h
  refine ⟨?_, lo_nonneg h1 h2, ?_, ?_⟩
  all_goals
    obtain ⟨w, r0, r1⟩ := c
    obtain ⟨a1, a2, a3⟩ := h1
    obtain ⟨b1, b2, b3⟩ := h2
    simp only at a1 a2 a3 b1 b2 b3 hw
    by_cases e : f = .corner
    · obtain ⟨e1, e2, e3⟩ := h3 e
      simp only at e1 e2 e3
      subst e1
      first
        | (intro x hx0 hx1; simp [CS.maybe]; grind)
        | (simp [CS.lo, m0]; grind)
        | (simp [CS.hi, m0]; grind)
    · obtain ⟨e1, e2, e3, e4, e5⟩ := h4 e
      simp only at e1 e2 e3 e4 e5
      rcases e1 with e1 | e1
      · exact absurd e1 hw
      · subst e1
        first
          | (intro x hx0 hx1; simp [CS.maybe]; grind)
          | (simp [CS.lo, between, m0]; grind)
          | (simp [CS.hi, between, m0]; grind)
theorem sh_low {f : Fam} {c : CS} {q : Bool} {a : Rat} (h : ShOk f c) (hq : q = true → f ≠ .corner) (h1 : (c.rng q).1 < a) (h2 : a < (c.rng q).2) (ha : ¬ a < (if f ≠ .corner ∧ q = false then 0 else 1)) : ShOk f (c.low q a) := by
  obtain ⟨⟨a1, a2, a3⟩, ⟨b1, b2, b3⟩, h3, h4⟩ := h
  cases q
  · simp only [CS.rng] at h1 h2
    refine ⟨⟨a1, h1, Rat.le_trans (Rat.le_of_lt h2) a3⟩, ⟨b1, b2, b3⟩, fun e => ?_, fun e => ?_⟩
    · obtain ⟨e1, e2, e3⟩ := h3 e
      simp [e] at ha
      exact ⟨e1, e2, Rat.not_lt.mp ha⟩
    · obtain ⟨e1, e2, e3, e4, e5⟩ := h4 e
      simp [e] at ha
      exact ⟨e1, e2, Rat.not_lt.mp ha, e4, e5⟩
  · simp only [CS.rng] at h1 h2
    refine ⟨⟨a1, a2, a3⟩, ⟨b1, h1, Rat.le_trans (Rat.le_of_lt h2) b3⟩, fun e => absurd e (hq rfl), fun e => ?_⟩
    obtain ⟨e1, e2, e3, e4, e5⟩ := h4 e
    simp at ha
    exact ⟨e1, e2, e3, e4, Rat.not_lt.mp ha⟩
theorem sh_high {f : Fam} {c : CS} {q : Bool} {a : Rat} (h : ShOk f c) (hq : q = true → f ≠ .corner) (h1 : (c.rng q).1 < a) (h2 : a < (c.rng q).2) (ha : a < (if f ≠ .corner ∧ q = false then 0 else 1)) : ShOk f (c.high q a) := by
  obtain ⟨⟨a1, a2, a3⟩, ⟨b1, b2, b3⟩, h3, h4⟩ := h
  cases q
  · simp only [CS.rng] at h1 h2
    refine ⟨⟨Rat.le_trans a1 (Rat.le_of_lt h1), h2, a3⟩, ⟨b1, b2, b3⟩, fun e => ?_, fun e => ?_⟩
    · obtain ⟨e1, e2, e3⟩ := h3 e
      simp [e] at ha
      exact ⟨e1, ha, e3⟩
    · obtain ⟨e1, e2, e3, e4, e5⟩ := h4 e
      simp [e] at ha
      exact ⟨e1, ha, e3, e4, e5⟩
  · simp only [CS.rng] at h1 h2
    refine ⟨⟨a1, a2, a3⟩, ⟨Rat.le_trans b1 (Rat.le_of_lt h1), h2, b3⟩, fun e => absurd e (hq rfl), fun e => ?_⟩
    obtain ⟨e1, e2, e3, e4, e5⟩ := h4 e
    simp at ha
    exact ⟨e1, e2, e3, ha, e5⟩
theorem sh_word {f : Fam} {c : CS} (h : ShOk f c) (hf : f ≠ .corner) : ShOk f (c.word .frm) := ⟨h.1, h.2.1, fun e => absurd e hf, fun e => ⟨.inr rfl, (h.2.2.2 e).2⟩⟩
/-- dropping a side of no say: at a leaf; r stays, c goes; the points as rows of what stays and what goes -/
theorem drop_leaf {pts : List Pt} {o : Nat} {cell : Cell} {c r : CS} (hp : GoodP pts) (h2 : ∀ p ∈ pts, p.length = 2) (hn : 0 < pts.length) (ho : o = 0 ∧ cell = [c, r] ∨ o = 1 ∧ cell = [r, c]) (hr : Rg r.r0 ∧ Rg r.r1) (hcg : CellG cell) (hrg : CellG [r])
    (hc : (∀ x, 0 ≤ x → x < 1 → c.maybe x = true) ∧ 0 ≤ c.lo ∧ c.lo ≤ 1 ∧ 1 ≤ c.hi) : overN (pts.map (dropP o)) [r] ≤ overN pts cell ∧ lackN (pts.map (dropP o)) [r] ≤ lackN pts cell := by
  obtain ⟨k1, k2, k3, k4⟩ := hc
  have r1 := lo_nonneg hr.1 hr.2
  have r2 := hi_nonneg hr.1 hr.2
  have v1 : vLo cell ≤ vLo [r] := by
    have : c.lo * r.lo ≤ 1 * r.lo := Rat.mul_le_mul_of_nonneg_right k3 r1
    rcases ho with ⟨_, rfl⟩ | ⟨_, rfl⟩ <;> simp [vLo, Rat.one_mul] at this ⊢
    · exact this
    · rw [Rat.mul_comm]; exact this
  have v2 : vHi [r] ≤ vHi cell := by
    have : 1 * r.hi ≤ c.hi * r.hi := Rat.mul_le_mul_of_nonneg_right k4 r2
    rcases ho with ⟨_, rfl⟩ | ⟨_, rfl⟩ <;> simp [vHi, Rat.one_mul] at this ⊢
    · exact this
    · rw [Rat.mul_comm]; exact this
  have cm : cM (pts.map (dropP o)) [r] ≤ cM pts cell := by
    unfold cM
    rw [List.countP_map]
    refine List.countP_mono_left fun p hpm ha => ?_
    have hg := hp p hpm
    match p, h2 p hpm with
    | [x, y], _ =>
      rcases ho with ⟨rfl, rfl⟩ | ⟨rfl, rfl⟩
      · have := k1 x (hg x (by simp)).1 (hg x (by simp)).2
        simp [dropP, allM] at ha ⊢
        exact ⟨this, ha⟩
      · have := k1 y (hg y (by simp)).1 (hg y (by simp)).2
        simp [dropP, allM] at ha ⊢
        exact ⟨ha, this⟩
  have cs : cntS pts cell ≤ cntS (pts.map (dropP o)) [r] := by
    unfold cntS
    rw [List.countP_map]
    refine List.countP_mono_left fun p hpm ha => ?_
    match p, h2 p hpm with
    | [x, y], _ =>
      rcases ho with ⟨rfl, rfl⟩ | ⟨rfl, rfl⟩
      · simp [dropP, allS] at ha ⊢
        exact ha.2
      · simp [dropP, allS] at ha ⊢
        exact ha.1
  have e1 := cnt_M (pts := pts) hcg
  have e2 := cnt_M (pts := pts.map (dropP o)) hrg
  have m1 := mk_le (k := (cntS (pts.map (dropP o)) [r] : Int) + cntN (pts.map (dropP o)) [r]) (l := (cntS pts cell : Int) + cntN pts cell) (n := pts.length) (by omega) hn
  have m2 := mk_le (k := (cntS pts cell : Int)) (l := (cntS (pts.map (dropP o)) [r] : Int)) (n := pts.length) (by omega) hn
  unfold overN lackN
  rw [List.length_map]
  constructor
  · grind
  · grind
end EP

set_option Elab.async false
set_option linter.all false
set_option maxHeartbeats 4000000
namespace EP
def cl (o : Bool) (c r : CS) : Cell := if o = true then [r, c] else [c, r]
def ox (o : Bool) : Nat := if o = true then 1 else 0
theorem cl_B {o : Bool} {c r : CS} (hc : Rg c.r0 ∧ Rg c.r1) (hr : Rg r.r0 ∧ Rg r.r1) : CellB (cl o c r) := fun x hx => by
  cases o <;> simp [cl] at hx <;> rcases hx with rfl | rfl <;> assumption
theorem B1 {r : CS} (hr : Rg r.r0 ∧ Rg r.r1) : CellB [r] := fun x hx => by
  simp at hx
  subst hx
  exact hr
theorem rg_low {r : CS} {q : Bool} {a : Rat} (hr : Rg r.r0 ∧ Rg r.r1) (h1 : (r.rng q).1 < a) (h2 : a < (r.rng q).2) : Rg (r.low q a).r0 ∧ Rg (r.low q a).r1 := by
  obtain ⟨⟨a1, a2, a3⟩, ⟨b1, b2, b3⟩⟩ := hr
  cases q
  · exact ⟨⟨a1, h1, Rat.le_trans (Rat.le_of_lt h2) a3⟩, ⟨b1, b2, b3⟩⟩
  · exact ⟨⟨a1, a2, a3⟩, ⟨b1, h1, Rat.le_trans (Rat.le_of_lt h2) b3⟩⟩
theorem rg_high {r : CS} {q : Bool} {a : Rat} (hr : Rg r.r0 ∧ Rg r.r1) (h1 : (r.rng q).1 < a) (h2 : a < (r.rng q).2) : Rg (r.high q a).r0 ∧ Rg (r.high q a).r1 := by
  obtain ⟨⟨a1, a2, a3⟩, ⟨b1, b2, b3⟩⟩ := hr
  cases q
  · exact ⟨⟨Rat.le_trans a1 (Rat.le_of_lt h1), h2, a3⟩, ⟨b1, b2, b3⟩⟩
  · exact ⟨⟨a1, a2, a3⟩, ⟨Rat.le_trans b1 (Rat.le_of_lt h1), h2, b3⟩⟩
theorem cl_mod (o : Bool) (c r : CS) (s : Nat) (hs : s < 2) (g : CS → CS) : (cl o c r).modify s g = if s = ox o then cl o (g c) r else cl o c (g r) := by
  have : s = 0 ∨ s = 1 := by omega
  rcases this with rfl | rfl <;> cases o <;> rfl
theorem cl_get (o : Bool) (c r : CS) (s : Nat) (hs : s < 2) : getC (cl o c r) s = if s = ox o then c else r := by
  have : s = 0 ∨ s = 1 := by omega
  rcases this with rfl | rfl <;> cases o <;> rfl
theorem ox_new (o : Bool) (s : Nat) (hs : s < 2) (h : s ≠ ox o) : (if ox o < s then s - 1 else s) = 0 := by
  have : s = 0 ∨ s = 1 := by omega
  rcases this with rfl | rfl <;> cases o <;> simp [ox] at h ⊢
theorem shadow_ok {f : Fam} {pts : List Pt} (hp : GoodP pts) (h2 : ∀ p ∈ pts, p.length = 2) (hn : 0 < pts.length) (o : Bool) : ∀ (T : Tr) (c r : CS), ShOk f c → Rg r.r0 ∧ Rg r.r1 → Wf f (cl o c r) T → Wf f [r] (shadow f (ox o) T) ∧ need (pts.map (dropP (ox o))) [r] (shadow f (ox o) T) ≤ need pts (cl o c r) T
  | .leaf, c, r, hc, hr, w => by
    have hcm : c ∈ cl o c r := by cases o <;> simp [cl]
    have hrm : r ∈ cl o c r := by cases o <;> simp [cl]
    have h := drop_leaf hp h2 hn (o := ox o) (cell := cl o c r) (by cases o <;> simp [ox, cl]) hr (cl_B ⟨hc.1, hc.2.1⟩ hr).r.g (B1 hr).r.g (sh_leaf hc (w c hcm))
    refine ⟨fun x hx => ?_, ?_⟩
    · simp at hx
      subst hx
      exact w x hrm
    · have k := mx_le.mp (Rat.le_refl (a := mx (overN pts (cl o c r)) (lackN pts (cl o c r))))
      exact mx_le.mpr ⟨Rat.le_trans h.1 k.1, Rat.le_trans h.2 k.2⟩
  | .cut s q a A B, c, r, hc, hr, ⟨w1, w2, w3, w4, w5, w6, w7⟩ => by
    have hs : s < 2 := by cases o <;> simpa [cl] using w1
    have kk := mx_le.mp (Rat.le_refl (a := mx (need pts ((cl o c r).modify s (CS.low q a)) A) (need pts ((cl o c r).modify s (CS.high q a)) B)))
    rw [cl_get _ _ _ _ hs] at w4 w5
    rw [cl_mod _ _ _ _ hs] at w6 w7
    have eN : need pts (cl o c r) (.cut s q a A B) = mx (need pts ((cl o c r).modify s (CS.low q a)) A) (need pts ((cl o c r).modify s (CS.high q a)) B) := rfl
    rw [eN]
    rw [cl_mod _ _ _ _ hs, cl_mod _ _ _ _ hs] at kk ⊢
    by_cases e : s = ox o
    · simp only [if_pos e] at w4 w5 w6 w7 kk ⊢
      simp only [shadow, if_pos e]
      by_cases c2 : a < (if f ≠ .corner ∧ q = false then 0 else 1)
      · rw [if_pos c2]
        have k := shadow_ok hp h2 hn o B _ _ (sh_high hc w2 w4 w5 c2) hr w7
        exact ⟨k.1, Rat.le_trans k.2 kk.2⟩
      · rw [if_neg c2]
        have k := shadow_ok hp h2 hn o A _ _ (sh_low hc w2 w4 w5 c2) hr w6
        exact ⟨k.1, Rat.le_trans k.2 kk.1⟩
    · simp only [if_neg e] at w4 w5 w6 w7 kk ⊢
      simp only [shadow, if_neg e, ox_new o s hs e]
      have k1 := shadow_ok hp h2 hn o A _ _ hc (rg_low hr w4 w5) w6
      have k2 := shadow_ok hp h2 hn o B _ _ hc (rg_high hr w4 w5) w7
      exact ⟨⟨by simp, w2, w3, w4, w5, k1.1, k2.1⟩, mx_le.mpr ⟨Rat.le_trans k1.2 kk.1, Rat.le_trans k2.2 kk.2⟩⟩
  | .ways s A B, c, r, hc, hr, ⟨w1, w2, w3, w6, w7⟩ => by
    have hs : s < 2 := by cases o <;> simpa [cl] using w1
    have hf : f ≠ .corner := by rw [w2]; simp
    have kk := mx_le.mp (Rat.le_refl (a := mx (need pts ((cl o c r).modify s (CS.word .frm)) A) (need pts ((cl o c r).modify s (CS.word .rnd)) B)))
    rw [cl_get _ _ _ _ hs] at w3
    rw [cl_mod _ _ _ _ hs] at w6 w7
    have eN : need pts (cl o c r) (.ways s A B) = mx (need pts ((cl o c r).modify s (CS.word .frm)) A) (need pts ((cl o c r).modify s (CS.word .rnd)) B) := rfl
    rw [eN]
    rw [cl_mod _ _ _ _ hs, cl_mod _ _ _ _ hs] at kk ⊢
    by_cases e : s = ox o
    · simp only [if_pos e] at w3 w6 w7 kk ⊢
      simp only [shadow, if_pos e]
      have k := shadow_ok hp h2 hn o A _ _ (sh_word hc hf) hr w6
      exact ⟨k.1, Rat.le_trans k.2 kk.1⟩
    · simp only [if_neg e] at w3 w6 w7 kk ⊢
      simp only [shadow, if_neg e, ox_new o s hs e]
      have k1 := shadow_ok hp h2 hn o A c (r.word .frm) hc hr w6
      have k2 := shadow_ok hp h2 hn o B c (r.word .rnd) hc hr w7
      exact ⟨⟨by simp, w2, w3, k1.1, k2.1⟩, mx_le.mpr ⟨Rat.le_trans k1.2 kk.1, Rat.le_trans k2.2 kk.2⟩⟩
/-! ### a paper bounds every look's miss -/
def Pl (r : Rat × Rat) (e : Rat) : Prop := r.1 ≤ e ∧ (e < r.2 ∨ 1 ≤ r.2)
def Mi (r : Rat × Rat) (e : Rat) : Prop := (r.1 < e ∨ r.1 ≤ -1) ∧ e ≤ r.2
def Fit (over : Bool) (c : CS) (s : BS) : Prop := (c.w = s.w ∨ c.w = .un) ∧ (s.w = .to → if over = true then Pl c.r0 s.a else Mi c.r0 s.a) ∧ (s.w ≠ .to → if over = true then Mi c.r0 s.a ∧ Pl c.r1 s.b else Pl c.r0 s.a ∧ Mi c.r1 s.b)
theorem pl_cut {r : Rat × Rat} {e a : Rat} (h : Pl r e) (h1 : r.1 < a) (h2 : a < r.2) : Pl (r.1, a) e ∨ Pl (a, r.2) e := by
  unfold Pl at *
  by_cases c : a ≤ e
  · right
    exact ⟨c, h.2⟩
  · left
    exact ⟨h.1, .inl (Rat.not_le.mp c)⟩
theorem mi_cut {r : Rat × Rat} {e a : Rat} (h : Mi r e) (h1 : r.1 < a) (h2 : a < r.2) : Mi (r.1, a) e ∨ Mi (a, r.2) e := by
  unfold Mi at *
  by_cases c : a < e
  · right
    exact ⟨.inl c, h.2⟩
  · left
    exact ⟨h.1, Rat.not_lt.mp c⟩
theorem fit_cut {o : Bool} {c : CS} {s : BS} {q : Bool} {a : Rat} (h : Fit o c s) (hq : q = true → s.w ≠ .to) (h1 : (c.rng q).1 < a) (h2 : a < (c.rng q).2) : Fit o (c.low q a) s ∨ Fit o (c.high q a) s := by
  obtain ⟨k1, k2, k3⟩ := h
  by_cases e : s.w = .to
  · cases q
    · simp only [CS.rng] at h1 h2
      cases o
      · rcases mi_cut (k2 e) h1 h2 with k | k
        · exact .inl ⟨k1, fun _ => k, fun z => absurd e z⟩
        · exact .inr ⟨k1, fun _ => k, fun z => absurd e z⟩
      · rcases pl_cut (k2 e) h1 h2 with k | k
        · exact .inl ⟨k1, fun _ => k, fun z => absurd e z⟩
        · exact .inr ⟨k1, fun _ => k, fun z => absurd e z⟩
    · exact absurd e (hq rfl)
  · have k4 := k3 e
    cases q <;> simp only [CS.rng] at h1 h2 <;> cases o
    · rcases pl_cut k4.1 h1 h2 with k | k
      · exact .inl ⟨k1, fun z => absurd z e, fun _ => ⟨k, k4.2⟩⟩
      · exact .inr ⟨k1, fun z => absurd z e, fun _ => ⟨k, k4.2⟩⟩
    · rcases mi_cut k4.1 h1 h2 with k | k
      · exact .inl ⟨k1, fun z => absurd z e, fun _ => ⟨k, k4.2⟩⟩
      · exact .inr ⟨k1, fun z => absurd z e, fun _ => ⟨k, k4.2⟩⟩
    · rcases mi_cut k4.2 h1 h2 with k | k
      · exact .inl ⟨k1, fun z => absurd z e, fun _ => ⟨k4.1, k⟩⟩
      · exact .inr ⟨k1, fun z => absurd z e, fun _ => ⟨k4.1, k⟩⟩
    · rcases pl_cut k4.2 h1 h2 with k | k
      · exact .inl ⟨k1, fun z => absurd z e, fun _ => ⟨k4.1, k⟩⟩
      · exact .inr ⟨k1, fun z => absurd z e, fun _ => ⟨k4.1, k⟩⟩
def BxOk (f : Fam) (s : BS) : Prop := s.w ≠ .un ∧ (s.w = .to ↔ f = .corner) ∧ s.a ≤ 1
theorem fit_over {c : CS} {s : BS} (h : Fit true c s) (hw : c.w ≠ .un) (hr : Rg c.r0 ∧ Rg c.r1) : (∀ x : Rat, 0 ≤ x → x < 1 → s.lies true x = true → c.maybe x = true) ∧ 0 ≤ c.lo ∧ c.lo ≤ s.size := by
  refine ⟨fun x x0 x1 hx => ?_, lo_nonneg hr.1 hr.2, ?_⟩
  all_goals
    obtain ⟨w, r0, r1⟩ := c
    obtain ⟨w', a, b⟩ := s
    obtain ⟨k1, k2, k3⟩ := h
    obtain ⟨⟨a1, a2, a3⟩, ⟨b1, b2, b3⟩⟩ := hr
    simp only at k1 k2 k3 a1 a2 a3 b1 b2 b3 hw
    have ew := k1.resolve_right hw
    subst ew
  · cases w <;> simp [CS.maybe, BS.lies, ahead, behind, Pl, Mi] at * <;> grind
  · cases w <;> simp [CS.lo, between, BS.size, m0, Pl, Mi] at * <;> grind
theorem fit_lack {c : CS} {s : BS} (h : Fit false c s) (hw : c.w ≠ .un) (hr : Rg c.r0 ∧ Rg c.r1) (ha : s.a ≤ 1) : (∀ x : Rat, 0 ≤ x → x < 1 → c.sure x = true → s.lies false x = true) ∧ 0 ≤ s.size ∧ s.size ≤ c.hi := by
  refine ⟨fun x x0 x1 hx => ?_, ?_, ?_⟩
  all_goals
    obtain ⟨w, r0, r1⟩ := c
    obtain ⟨w', a, b⟩ := s
    obtain ⟨k1, k2, k3⟩ := h
    obtain ⟨⟨a1, a2, a3⟩, ⟨b1, b2, b3⟩⟩ := hr
    simp only at k1 k2 k3 a1 a2 a3 b1 b2 b3 hw ha
    have ew := k1.resolve_right hw
    subst ew
  · cases w <;> simp [CS.sure, BS.lies, ahead, behind, Pl, Mi] at * <;> grind
  · cases w <;> simp [BS.size, m0] at * <;> grind
  · cases w <;> simp [CS.hi, between, BS.size, m0, Pl, Mi] at * <;> grind
end EP

set_option Elab.async false
set_option linter.all false
set_option maxHeartbeats 4000000
namespace EP
theorem mx_ge {a b c : Rat} : c ≤ mx a b ↔ c ≤ a ∨ c ≤ b := by
  unfold mx
  by_cases h : a < b
  · rw [if_pos h]
    exact ⟨.inr, fun z => z.elim (fun z => Rat.le_trans z (Rat.le_of_lt h)) id⟩
  · rw [if_neg h]
    exact ⟨.inl, fun z => z.elim id (fun z => Rat.le_trans z (Rat.not_lt.mp h))⟩
theorem all_zipF {α β : Type} {p : Pt} {l : List α} {m : List β} {f : α → Rat → Bool} {g : β → Rat → Bool} (hl : l.length = m.length) (h : ∀ (i : Nat) (a : α) (b : β) (x : Rat), l[i]? = some a → m[i]? = some b → x ∈ p → f a x = true → g b x = true) (ha : (p.zip l).all (fun z => f z.2 z.1) = true) : (p.zip m).all (fun z => g z.2 z.1) = true := by
  rw [List.all_eq_true] at ha ⊢
  intro z hz
  obtain ⟨i, hi⟩ := List.mem_iff_getElem?.mp hz
  rw [List.getElem?_zip_eq_some] at hi
  obtain ⟨h1, h2⟩ := hi
  have hlt : i < l.length := by
    rw [hl]
    exact (List.getElem?_eq_some_iff.mp h2).1
  have h3 : l[i]? = some l[i] := List.getElem?_eq_getElem hlt
  refine h i l[i] z.2 z.1 h3 h2 (List.mem_iff_getElem?.mpr ⟨i, h1⟩) ?_
  exact ha (z.1, l[i]) (List.mem_iff_getElem?.mpr ⟨i, List.getElem?_zip_eq_some.mpr ⟨h1, h3⟩⟩)
theorem leaf_over {pts : List Pt} {cell : Cell} {box : Box} (hp : GoodP pts) (hn : 0 < pts.length) (h : FA (Fit true) cell box) (hw : ∀ c ∈ cell, c.w ≠ .un) (hb : CellB cell) : overB pts box ≤ overN pts cell := by
  have mem : ∀ {i : Nat} {c : CS}, cell[i]? = some c → c ∈ cell := fun e => List.mem_iff_getElem?.mpr ⟨_, e⟩
  have key : ∀ (i : Nat) c s, cell[i]? = some c → box[i]? = some s → _ := fun i c s hc hs => fit_over (h.2 i c s hc hs) (hw c (mem hc)) (hb c (mem hc))
  have v := (prod_le (f := CS.lo) (g := BS.size) (l := cell) (m := box) ⟨h.1, fun i c s hc hs => ⟨(key i c s hc hs).2.1, (key i c s hc hs).2.2⟩⟩).2
  have cc : pts.countP (liesIn true box) ≤ cM pts cell := List.countP_mono_left fun p hpm ha => all_zipF (f := fun s x => BS.lies true s x) (g := CS.maybe) h.1.symm (fun i s c x hs hc hx => (key i c s hc hs).1 x (hp p hpm x hx).1 (hp p hpm x hx).2) ha
  have e := cnt_M (pts := pts) hb.r.g
  have m := mk_le (k := (pts.countP (liesIn true box) : Int)) (l := (cntS pts cell : Int) + cntN pts cell) (n := pts.length) (by omega) hn
  unfold overB overN
  rw [vLo_prod, bsize_prod]
  grind
theorem leaf_lack {f : Fam} {pts : List Pt} {cell : Cell} {box : Box} (hp : GoodP pts) (hn : 0 < pts.length) (h : FA (Fit false) cell box) (hw : ∀ c ∈ cell, c.w ≠ .un) (hb : CellB cell) (hx : ∀ s ∈ box, BxOk f s) : lackB pts box ≤ lackN pts cell := by
  have mem : ∀ {i : Nat} {c : CS}, cell[i]? = some c → c ∈ cell := fun e => List.mem_iff_getElem?.mpr ⟨_, e⟩
  have key : ∀ (i : Nat) c s, cell[i]? = some c → box[i]? = some s → _ := fun i c s hc hs => fit_lack (h.2 i c s hc hs) (hw c (mem hc)) (hb c (mem hc)) (hx s (List.mem_iff_getElem?.mpr ⟨i, hs⟩)).2.2
  have v := (prod_le (f := BS.size) (g := CS.hi) (l := box) (m := cell) ⟨h.1.symm, fun i s c hs hc => ⟨(key i c s hc hs).2.1, (key i c s hc hs).2.2⟩⟩).2
  have cc : cntS pts cell ≤ pts.countP (liesIn false box) := List.countP_mono_left fun p hpm ha => all_zipF (f := CS.sure) (g := fun s x => BS.lies false s x) h.1 (fun i c s x hc hs hx => (key i c s hc hs).1 x (hp p hpm x hx).1 (hp p hpm x hx).2) ha
  have m := mk_le (k := (cntS pts cell : Int)) (l := (pts.countP (liesIn false box) : Int)) (n := pts.length) (by omega) hn
  unfold lackB lackN
  rw [vHi_prod, bsize_prod]
  grind
theorem sound {f : Fam} {pts : List Pt} (hp : GoodP pts) (hn : 0 < pts.length) (o : Bool) : ∀ (T : Tr) (cell : Cell) (box : Box), FA (Fit o) cell box → CellB cell → (∀ s ∈ box, BxOk f s) → Wf f cell T → (if o = true then overB pts box else lackB pts box) ≤ need pts cell T
  | .leaf, cell, box, h, hb, hx, w => by
    refine mx_ge.mpr ?_
    cases o
    · exact .inr (leaf_lack hp hn h w hb hx)
    · exact .inl (leaf_over hp hn h w hb)
  | .cut s q a A B, cell, box, h, hb, hx, ⟨w1, w2, w3, w4, w5, w6, w7⟩ => by
    refine mx_ge.mpr ?_
    have hs : s < box.length := by rw [← h.1]; exact w1
    have hbs : box[s]? = some box[s] := List.getElem?_eq_getElem hs
    have hbx := hx _ (List.getElem_mem hs)
    have hfit := h.2 s _ _ (get_getC w1) hbs
    rcases fit_cut hfit (fun e z => w2 e (hbx.2.1.mp z)) w4 w5 with k | k
    · left
      refine sound hp hn o A _ box (h.modL s _ fun c b hc hb' _ => ?_) (hb.low w4 w5) hx w6
      rw [hbs] at hb'
      cases hb'
      rw [getC_of hc] at k
      exact k
    · right
      refine sound hp hn o B _ box (h.modL s _ fun c b hc hb' _ => ?_) (hb.high w4 w5) hx w7
      rw [hbs] at hb'
      cases hb'
      rw [getC_of hc] at k
      exact k
  | .ways s A B, cell, box, h, hb, hx, ⟨w1, w2, w3, w6, w7⟩ => by
    refine mx_ge.mpr ?_
    have hs : s < box.length := by rw [← h.1]; exact w1
    have hbs : box[s]? = some box[s] := List.getElem?_eq_getElem hs
    have hbx := hx _ (List.getElem_mem hs)
    have hnt : box[s].w ≠ .to := fun z => by
      have := hbx.2.1.mp z
      rw [w2] at this
      cases this
    by_cases e : box[s].w = .frm
    · left
      refine sound hp hn o A _ box (h.modL s _ fun c b hc hb' hf => ?_) hb.word hx w6
      rw [hbs] at hb'
      cases hb'
      exact ⟨.inl e.symm, hf.2⟩
    · right
      have e2 : box[s].w = .rnd := by
        cases z : box[s].w <;> simp [z] at e hnt <;> first | rfl | exact absurd z hbx.1
      refine sound hp hn o B _ box (h.modL s _ fun c b hc hb' hf => ?_) hb.word hx w7
      rw [hbs] at hb'
      cases hb'
      exact ⟨.inl e2.symm, hf.2⟩
theorem bx_of {f : Fam} {s : BS} (h : BSok f s) : BxOk f s := by
  obtain ⟨h1, h2, h3, h4, h5, h6, h7, _⟩ := h
  obtain ⟨w, a, b⟩ := s
  simp only at h1 h2 h3
  refine ⟨?_, ?_, h5⟩ <;> cases f <;> simp at h1 h2 h3 ⊢
  · rw [h1]; simp
  · rw [h2]; simp
  · rcases h3 with h | h <;> rw [h] <;> simp
  · exact h1
  · rw [h2]; simp
  · rcases h3 with h | h <;> rw [h] <;> simp
theorem fit_first {f : Fam} {s : BS} (o : Bool) (h : BSok f s) : Fit o (firstC f) s := by
  obtain ⟨h1, h2, h3, h4, h5, h6, h7, _⟩ := h
  have pl : ∀ e : Rat, -1 ≤ e → Pl wh e := fun e he => ⟨he, .inr (by decide)⟩
  have mi : ∀ e : Rat, e ≤ 1 → Mi wh e := fun e he => ⟨.inr (by decide), he⟩
  refine ⟨?_, fun _ => ?_, fun _ => ?_⟩
  · cases f
    · exact .inl (h1 rfl).symm
    · exact .inl (h2 rfl).symm
    · exact .inr rfl
  · cases o
    · exact mi _ h5
    · exact pl _ h4
  · cases o
    · exact ⟨pl _ h4, mi _ h7⟩
    · exact ⟨mi _ h5, pl _ h6⟩
theorem good_of {n : Nat} {pts : List Pt} (h : PtsOk n pts) : GoodP pts := fun p hp x hx => ⟨((h.1 p hp).2 x hx).1, ((h.1 p hp).2 x hx).2.1⟩
theorem miss_le {f : Fam} {n : Nat} {pts : List Pt} {T : Tr} {u : Rat} (hp : PtsOk n pts) (w : Wf f (first n f) T) (h : MissOf f n pts u) : u ≤ need pts (first n f) T := by
  obtain ⟨box, ⟨hbl, hb⟩, h⟩ := h
  have hn : 0 < pts.length := by have := hp.2.1; omega
  have fa : ∀ o, FA (Fit o) (first n f) box := fun o => ⟨by simp [first, hbl], fun i c s hc hs => by
    have := List.eq_of_mem_replicate (List.mem_iff_getElem?.mpr ⟨i, hc⟩)
    subst this
    exact fit_first o (hb s (List.mem_iff_getElem?.mpr ⟨i, hs⟩))⟩
  have hx : ∀ s ∈ box, BxOk f s := fun s hs => bx_of (hb s hs)
  rcases h with rfl | rfl
  · exact sound (good_of hp) hn true T _ box (fa true) (first_B n f) hx w
  · exact sound (good_of hp) hn false T _ box (fa false) (first_B n f) hx w
/-- a paper in order holds -/
theorem hold_of {f : Fam} {n : Nat} {pts : List Pt} {num : Rat} {T : Tr} (hn : n = 1 ∨ n = 2) (hp : PtsOk n pts) (hs : Sm 900 num) (w : Wf f (first n f) T) (hd : need pts (first n f) T ≤ num) (hh : ht T ≤ 36) : HoldOk f n pts num T :=
  ⟨hn, hp, hs, w, hd, hh, fun _ u hu => Rat.le_trans (miss_le hp w hu) hd⟩
end EP

set_option Elab.async false
set_option linter.all false
set_option maxHeartbeats 4000000
namespace EP
structure PapOk (n : Nat) (z : Rat) (f : Fam) (pts : List Pt) (T : Tr) : Prop where
  hold : HoldOk f n pts z T
  tr : TrOk n f T
  hh : ht T ≤ 18
  sh : n = 2 → ∀ o, o < 2 → HoldOk f 1 (pts.map (dropP o)) z (shadow f o T)
theorem first_sh (f : Fam) : ShOk f (firstC f) := by
  refine ⟨rg_wh, rg_wh, fun e => ?_, fun e => ?_⟩
  · subst e
    exact ⟨rfl, by decide, by decide⟩
  · refine ⟨?_, by show wh.1 < 0; decide, by show 0 ≤ wh.2; decide, by show wh.1 < 1; decide, by show 1 ≤ wh.2; decide⟩
    cases f
    · exact absurd rfl e
    · exact .inr rfl
    · exact .inl rfl
theorem pap_of {n : Nat} {z : Rat} {f : Fam} {pts : List Pt} {T : Tr} (hn : n = 1 ∨ n = 2) (hp : PtsOk n pts) (hs : Sm 900 z) (w : Wf f (first n f) T) (hd : need pts (first n f) T ≤ z) (hh : ht T ≤ 18) : PapOk n z f pts T := by
  have htr := trOk_of T _ w
  rw [show (first n f).length = n by simp [first]] at htr
  refine ⟨hold_of hn hp hs w hd (by omega), htr, hh, fun e o ho => ?_⟩
  subst e
  have h2 : ∀ p ∈ pts, p.length = 2 := fun p hpm => (hp.1 p hpm).1
  obtain ⟨b, rfl⟩ : ∃ b : Bool, o = ox b := by
    have : o = 0 ∨ o = 1 := by omega
    rcases this with rfl | rfl
    · exact ⟨false, rfl⟩
    · exact ⟨true, rfl⟩
  have e1 : first 2 f = cl b (firstC f) (firstC f) := by cases b <;> rfl
  rw [e1] at w hd
  have k := shadow_ok (good_of hp) h2 (by have := hp.2.1; omega) b T (firstC f) (firstC f) (first_sh f) ⟨rg_wh, rg_wh⟩ w
  refine hold_of (.inl rfl) ⟨fun p hpm => ?_, by rw [List.length_map]; exact hp.2⟩ hs k.1 (Rat.le_trans k.2 hd) (Nat.le_trans (ht_shadow _ _ _) (by omega))
  obtain ⟨p0, hp0, rfl⟩ := List.mem_map.mp hpm
  have hg := hp.1 p0 hp0
  match p0, hg with
  | [x, y], hg => cases b <;> exact ⟨rfl, fun v hv => hg.2 v (by simp [dropP, ox] at hv ⊢; first | exact .inl hv | exact .inr hv)⟩
theorem rev_pts {n : Nat} {pts : List Pt} (hp : PtsOk n pts) : PtsOk n (pts.map List.reverse) := ⟨fun p hpm => by
  obtain ⟨p0, hp0, rfl⟩ := List.mem_map.mp hpm
  exact ⟨by rw [List.length_reverse]; exact (hp.1 p0 hp0).1, fun x hx => (hp.1 p0 hp0).2 x (by simpa using hx)⟩, by rw [List.length_map]; exact hp.2⟩
theorem pap_inner {n : Nat} {z : Rat} {pts : List Pt} {T : Tr} (h : PapOk n z .round pts T) : PapOk n z .inner pts (innerT T) := by
  have k := inner_ok (pts := pts) T (first n .round) (fun c hc => .inl (by rw [List.eq_of_mem_replicate hc]; rfl)) h.hold.wf
  rw [first_inn] at k
  exact pap_of h.hold.n12 h.hold.hp h.hold.sm k.1 (Rat.le_trans k.2.1 h.hold.hd) (Nat.le_trans (ht_inner T) h.hh)
theorem pap_corner {n : Nat} {z : Rat} {pts : List Pt} {T : Tr} (h : PapOk n z .inner pts T) : Wf .inner (first n .inner) (exch n T) ∧ PapOk n z .corner (pts.map List.reverse) (cornerT (exch n T)) := by
  have k := exch_ok (pts := pts) h.hold.n12 (fun p hp => (h.hold.hp.1 p hp).1) T h.hold.wf
  have hp2 := rev_pts h.hold.hp
  have k2 := corner_ok (good_of hp2) (by have := hp2.2.1; omega) (exch n T) (first n .inner) (first_corOk n) k.1
  rw [first_cor, k.2] at k2
  exact ⟨k.1, pap_of h.hold.n12 hp2 h.hold.sm k2.1 (Rat.le_trans k2.2 h.hold.hd) (Nat.le_trans (ht_corner _) (by rw [ht_exch]; exact h.hh))⟩
theorem pap_joined {n : Nat} {x y z : Rat} {f : Fam} {P R : List Pt} {T M : Tr} (hn : n = 1 ∨ n = 2) (hP : PtsOk n P) (hR : PtsOk n R) (hl : P.length + R.length ≤ 8) (hs : Sm 900 z) (wT : Wf f (first n f) T) (wM : Wf f (first n f) M) (j : JN P.length R.length x y z)
    (hT : need P (first n f) T ≤ x) (hM : need R (first n f) M ≤ y) (hh : ht T + ht M ≤ 18) : PapOk n z f (P ++ R) (graft (first n f) T M) := by
  have k := join j (good_of hP) (good_of hR) M (first n f) (first_B n f) wM hM T (first n f) (.refl _) (first_B n f) (first_ok n f hn) wT hT
  refine pap_of hn ⟨fun p hp => ?_, ?_, ?_⟩ hs k.1 k.2 (Nat.le_trans (ht_graft M T _) hh)
  · rcases List.mem_append.mp hp with hp | hp
    · exact hP.1 p hp
    · exact hR.1 p hp
  · rw [List.length_append]; have := hP.2.1; omega
  · rw [List.length_append]; exact hl
theorem join_num (m k : Nat) (hm : 0 < m) (hk : 0 < k) (p q : Rat) : JN m k p q (mkRat (m * p.num * q.den + k * q.num * p.den) (p.den * q.den * (m + k))) := by
  refine ⟨hm, hk, ?_⟩
  have h0 : (0 : Rat) < (m : Rat) := by exact_mod_cast hm
  have h1 : (0 : Rat) < (k : Rat) := by exact_mod_cast hk
  have hp : (p.den : Rat) ≠ 0 := by exact_mod_cast p.den_nz
  have hq : (q.den : Rat) ≠ 0 := by exact_mod_cast q.den_nz
  have ep : p * p.den = p.num := by
    have := Rat.div_mul_cancel (a := (p.num : Rat)) hp
    rw [← Rat.mkRat_eq_div, Rat.mkRat_self] at this
    exact this
  have eq : q * q.den = q.num := by
    have := Rat.div_mul_cancel (a := (q.num : Rat)) hq
    rw [← Rat.mkRat_eq_div, Rat.mkRat_self] at this
    exact this
  have hmk : ((m : Rat) + k) ≠ 0 := by grind
  rw [Rat.mkRat_eq_div]
  rw [Rat.intCast_add, Rat.intCast_mul, Rat.intCast_mul, Rat.intCast_mul, Rat.intCast_mul, Rat.intCast_natCast, Rat.intCast_natCast, Rat.intCast_natCast, Rat.intCast_natCast, Rat.natCast_mul, Rat.natCast_mul, Rat.natCast_add, ← ep, ← eq]
  have hd : (p.den : Rat) * q.den ≠ 0 := by grind
  have hD : (p.den : Rat) * q.den * ((m : Rat) + k) ≠ 0 := by grind
  have e := Rat.div_mul_cancel (a := (m : Rat) * (p * p.den) * q.den + k * (q * q.den) * p.den) hD
  generalize ((m : Rat) * (p * p.den) * q.den + k * (q * q.den) * p.den) / ((p.den : Rat) * q.den * ((m : Rat) + k)) = w at *
  have e2 : (p.den : Rat) * q.den * (w * ((m : Rat) + k)) = (p.den : Rat) * q.den * (p * m + q * k) := by grind
  generalize (p.den : Rat) * q.den = D at *
  grind
theorem sm_num {m k : Nat} {p q : Rat} (hm : m ≤ 8) (hk : k ≤ 8) (hp : Sm 310 p) (hq : Sm 310 q) : Sm 900 (mkRat (m * p.num * q.den + k * q.num * p.den) (p.den * q.den * (m + k))) := by
  have l4 : ∀ i : Nat, i ≤ 16 → i < 2 ^ 5 := fun i hi => Nat.lt_of_le_of_lt hi (by decide)
  have d1 : ((p.den : Int)).natAbs < 2 ^ 310 := by rw [Int.natAbs_natCast]; exact hp.2
  have d2 : ((q.den : Int)).natAbs < 2 ^ 310 := by rw [Int.natAbs_natCast]; exact hq.2
  have a1 := natAbs_mul_lt (natAbs_mul_lt (a := (m : Int)) (n := 5) (by rw [Int.natAbs_natCast]; exact l4 m (by omega)) hp.1) d2
  have a2 := natAbs_mul_lt (natAbs_mul_lt (a := (k : Int)) (n := 5) (by rw [Int.natAbs_natCast]; exact l4 k (by omega)) hq.1) d1
  have a3 := natAbs_add_lt a1 a2
  have a4 := mul_lt_pow (mul_lt_pow hp.2 hq.2) (l4 (m + k) (by omega))
  exact Sm.mono (n := 700) (sm_mkRat (Nat.lt_trans a3 (Nat.pow_lt_pow_right (by decide) (by decide))) (Nat.lt_trans a4 (Nat.pow_lt_pow_right (by decide) (by decide))) (by decide)) (by decide)
end EP

set_option Elab.async false
set_option linter.all false
set_option maxRecDepth 100000
set_option maxHeartbeats 4000000
namespace EP
open PySem PySem.Spec PyProof.Rows L2 DL
def spLaw (K : PySem.W.Frag) : Sp := fun vs H Q _ => ∃ (a : Addr) (ns : List Int), vs = [.ref a] ∧ SqL K H a (ns.map V.int) ∧ ns.length ≤ 63 ∧ ∀ H', Q (.bl true) H'
theorem pts_gen {α : Type} {xs : List α} {ys : List D} (h : Paired (fun (_ : α) (y : D) => ∃ q, y = eQ q ∧ CoOk q) xs ys) : ∃ p : Pt, ys = p.map eQ ∧ p.length = xs.length ∧ ∀ x ∈ p, CoOk x := by
  induction h with
  | nil => exact ⟨[], rfl, rfl, by simp⟩
  | cons r _ ih =>
    obtain ⟨p, rfl, h2, h3⟩ := ih
    obtain ⟨q, rfl, hq⟩ := r
    exact ⟨q :: p, rfl, by simp [h2], fun x hx => by
      rcases List.mem_cons.mp hx with rfl | hx
      · exact hq
      · exact h3 x hx⟩
theorem co_frac {t : Int} (h0 : 0 ≤ t) (h1 : t < 12) : CoOk (mkRat t 12) := by
  refine ⟨?_, ?_, Sm.mono (n := 5) (sm_mkRat ?_ (by decide) (by decide)) (by decide)⟩
  · refine Rat.not_lt.mp fun z => ?_
    have := (mk_neg t 12 (by decide)).mp z
    omega
  · rw [Rat.mkRat_eq_div, Rat.div_lt_iff (by decide), Rat.one_mul]
    exact_mod_cast h1
  · have : t.natAbs < 12 := by omega
    exact Nat.lt_of_lt_of_le this (by decide)
theorem pow_12 : (12 : Int).natAbs < 2 ^ 8900 := Nat.lt_of_lt_of_le (show 12 < 2 ^ 5 by decide) (Nat.pow_le_pow_right (by decide) (by decide))
theorem first_R (n : Nat) (f : Fam) : CellR (first n f) := (first_B n f).r
theorem first_len (n : Nat) (f : Fam) : (first n f).length = n := by simp [first]
/-- the number carried beside a joined paper -/
structure NumF (m k : Nat) (x y z : Rat) : Prop where
  m1 : CMulW (m : Int) x.num
  m2 : CMulW ((m : Int) * x.num) y.den
  m3 : CMulW (k : Int) y.num
  m4 : CMulW ((k : Int) * y.num) x.den
  m5 : CMulW x.den y.den
  m6 : CMulW ((x.den : Int) * y.den) ((m : Int) + k)
  t1 : ((m : Int) * x.num * y.den + (k : Int) * y.num * x.den).natAbs < 2 ^ 8900
  t2 : ((x.den : Int) * y.den * ((m : Int) + k)).natAbs < 2 ^ 8900
  t3 : 0 < (x.den : Int) * y.den * ((m : Int) + k)
  hz : mkRat ((m : Int) * x.num * y.den + (k : Int) * y.num * x.den) ((x.den : Int) * y.den * ((m : Int) + k)).toNat = z
  j1 : JN m k x y z
  j2 : JN k m y x z
  sm : Sm 900 z
theorem num_all {m k : Nat} {x y : Rat} (hm : 0 < m) (hm8 : m ≤ 8) (hk : 0 < k) (hk8 : k ≤ 8) (q1 : Sm 310 x) (q2 : Sm 310 y) : ∃ z, NumF m k x y z := by
  have l4 : ∀ i : Nat, i ≤ 16 → ((i : Int)).natAbs < 2 ^ 5 := fun i hi => by rw [Int.natAbs_natCast]; exact Nat.lt_of_le_of_lt hi (by decide)
  have dx : ((x.den : Int)).natAbs < 2 ^ 310 := by rw [Int.natAbs_natCast]; exact q1.2
  have dy : ((y.den : Int)).natAbs < 2 ^ 310 := by rw [Int.natAbs_natCast]; exact q2.2
  have a1 := natAbs_mul_lt (l4 m (by omega)) q1.1
  have a2 := natAbs_mul_lt (l4 k (by omega)) q2.1
  have a3 := natAbs_mul_lt dx dy
  have l5 : ((m : Int) + k).natAbs < 2 ^ 5 := by rw [← Int.natCast_add]; exact l4 _ (by omega)
  have hj := join_num m k hm hk x y
  refine ⟨_, mul_ok (l4 _ (by omega)) q1.1 (by decide) (by decide) (by decide), mul_ok a1 dy (by decide) (by decide) (by decide), mul_ok (l4 _ (by omega)) q2.1 (by decide) (by decide) (by decide), mul_ok a2 dx (by decide) (by decide) (by decide),
    mul_ok dx dy (by decide) (by decide) (by decide), mul_ok a3 l5 (by decide) (by decide) (by decide), Nat.lt_trans (natAbs_add_lt (natAbs_mul_lt a1 dy) (natAbs_mul_lt a2 dx)) (Nat.pow_lt_pow_right (by decide) (by decide)),
    Nat.lt_trans (natAbs_mul_lt a3 l5) (Nat.pow_lt_pow_right (by decide) (by decide)), Int.mul_pos (Int.mul_pos (by have := x.den_pos; omega) (by have := y.den_pos; omega)) (by omega), rfl, ?_, ?_, ?_⟩
  · exact hj
  · exact ⟨hj.hn, hj.hm, by
      have := hj.eq
      grind⟩
  · exact sm_num hm8 hk8 q1 q2
/-- two wholes joined, either one first -/
theorem pap_both {n : Nat} {fm : Fam} {pts : List Pt} {p0 : Pt} {T1 T2 : Tr} {z : Rat} (hn : n = 1 ∨ n = 2) (hP : PtsOk n pts) (h6 : pts.length ≤ 6) (hp : PtsOk n [p0]) (w1 : Wf fm (first n fm) T1) (w2 : Wf fm (first n fm) T2) (hh : ht T1 + ht T2 ≤ 18)
    (N : NumF (pts.map ePt).length (List.map ePt [p0]).length (need pts (first n fm) T1) (need [p0] (first n fm) T2) z) : PapOk n z fm (pts ++ [p0]) (graft (first n fm) T1 T2) ∧ PapOk n z fm ([p0] ++ pts) (graft (first n fm) T2 T1) := by
  have j1 := N.j1
  have j2 := N.j2
  rw [show (pts.map ePt).length = pts.length from List.length_map _] at j1 j2
  exact ⟨pap_joined hn hP hp (by simp; omega) N.sm w1 w2 j1 Rat.le_refl Rat.le_refl hh, pap_joined hn hp hP (by simp; omega) N.sm w2 w1 j2 Rat.le_refl Rat.le_refl (by omega)⟩
end EP

set_option Elab.async false
set_option linter.all false
set_option maxRecDepth 100000
set_option maxHeartbeats 4000000
namespace EP
open PySem PySem.Spec PyProof.Rows L2 DL
abbrev sLaw : Stmt := topS 99
theorem scLaw : FnScope ["_law_script", "_law_feed_here", "_law_s", "_law_family", "_law_ends_here", "_law_pts", "_law_words", "_law_node", "_law_others", "_law_side", "_law_second", "_law_cell", "_law_one", "_law_two", "_law_top", "_law_number", "_law_both", "_law_paper", "_law_papers", "_law_inner", "_law_flipped", "_law_point", "_law_corner", "_law_told", "_law_some", "_law_other"] ["_law_script"] (defScope sLaw) := ⟨rfl, rfl, rfl, by decide +kernel, rfl, by decide +kernel, by decide +kernel⟩
theorem more_pap {n : Nat} {z : Rat} {both : List Pt} {T : Tr} {ps : List Paper} (hps : ∀ p ∈ ps, PapOk n z p.f p.pts p.T) (h : PapOk n z .corner (both.map List.reverse) T) :
    ∃ qs : List Paper, ps.map ePap ++ [.tup [.str "corner", .tup ([] ++ both.map fun p => ePt p.reverse), eTr T]] = qs.map ePap ∧ ∀ p ∈ qs, PapOk n z p.f p.pts p.T := by
  refine ⟨ps ++ [⟨.corner, both.map List.reverse, T⟩], ?_, fun p hp => ?_⟩
  · rw [List.map_append]
    simp [ePap, ePts, eF, List.map_map, Function.comp_def]
  · rcases List.mem_append.mp hp with hp | hp
    · exact hps p hp
    · rw [List.mem_singleton.mp hp]
      exact h
section
variable {P : Program} {w : World} {K : PySem.W.Frag} {mg : Str → Option Value} {base : Heap}
/-- the law's statements from here on, in the state ρ, end with True -/
abbrev LawAt (P : Program) (w : World) (K : PySem.W.Frag) (mg : Str → Option Value) (base : Heap) (i : Nat) (U : TDS) : Prop :=
  ∀ (f : Addr) (cdv : Value) (A : Around) (outer : List Env) (s : Shared) (H : Hp) (E : XK), Room 48 (A.deeper (envOfC "law" (defScope sLaw) s.heap.objs.size f cdv)) → DSs (cxOf CX0 P w K mg base ["_law_script", "_law_feed_here", "_law_s", "_law_family", "_law_ends_here", "_law_pts", "_law_words", "_law_node", "_law_others", "_law_side", "_law_second", "_law_cell", "_law_one", "_law_two", "_law_top", "_law_number", "_law_both", "_law_paper", "_law_papers", "_law_inner", "_law_flipped", "_law_point", "_law_corner", "_law_told", "_law_some", "_law_other"] "law" (defScope sLaw) f cdv A outer s H E).nox ((defBody sLaw).drop i) U
abbrev lawE : DEnds := { nx := fun _ => False, rt := fun d => d = .bl true }
theorem law_end (B : Blt mg) (c__law_world : Cal P w K mg base "_law_world" 2 ["_law_feed_here", "_law_s"] cWorld) (c__law_full : Cal P w K mg base "_law_full" 10 ["_law_ends_here", "_law_words", "_law_cuts"] (cFull 10)) (c__law_small : Cal P w K mg base "_law_small" 2 ["_law_feed_here", "_law_family", "_law_s"] cSmall) (c__law_first : Cal P w K mg base "_law_first" 1 ["_law_s", "_law_family"] cLFirst) (c__law_frac : Cal P w K mg base "_law_frac" 1 ["_law_top", "_law_bottom"] cFraction) (c_even_joined : Cal P w K mg base "even_joined" 28 ["family", "sides", "one", "other"] cJoined) (c_even_corner : Cal P w K mg base "even_corner" 22 ["paper"] (cCorner 20)) (c__law_draw : Cal P w K mg base "_law_draw" 1 ["_law_feed_here", "_law_many"] cDraw) (c__law_order : Cal P w K mg base "_law_order" 2 ["_law_feed_here", "_law_s"] cOrder) (c__law_need : Cal P w K mg base "_law_need" 14 ["_law_pts", "_law_cell", "_law_node"] (cLNeed 10)) (c_even_inner : Cal P w K mg base "even_inner" 20 ["paper"] (cInner 20)) (c_even_exchanged : Cal P w K mg base "even_exchanged" 20 ["paper", "order"] (cExch 20)) (c__law_shadows : Cal P w K mg base "_law_shadows" 48 ["_law_feed_here", "_law_papers", "_law_number"] cShadows) (c__law_holds : Cal P w K mg base "_law_holds" 47 ["_law_pts", "_law_family", "_law_number", "_law_paper"] cHolds) : ∃ U : TDS, LawAt P w K mg base 18 U ∧ ∀ (n : Nat) (z : Rat) (fm : Fam) (both : List Pt) (I : Tr) (ps : List Paper) (o0 o4 o5 o6 o7 o8 o9 o10 o11 o12 o13 o14 o17 : Option S),
    (n = 1 ∨ n = 2) → (∀ p ∈ ps, PapOk n z p.f p.pts p.T) → ps.length ≤ 2 → PapOk n z .inner both I →
    U lawE [o0, some .feed, some (.val (.int (n : Int))), some (.val (eF fm)), o4, o5, o6, o7, o8, o9, o10, o11, o12, o13, o14, some (.val (eQ z)), some (.val (ePts both)), o17, some (.own (ps.map ePap)), some (.val (eTr I)), none, none, none, none, none, none] := by
  refine ⟨_, fun f cdv A outer s H E hr => (dss_cons (ds_set 20 scLaw.nd (de_callTy call_tuple_of l_tupOf B.tuple boot_tuple_ (da_cons (de_comp [("_law_point", 21)] rfl scLaw.nd (di_tup (de_var 16)) (fun _ _ _ _ _ => (dg_name 21 scLaw.nd)) (fun _ _ _ _ _ => dts_nil) (fun _ _ _ _ _ => (de_revT (de_var 21))) (blk_ok (N := ["_law_script", "_law_feed_here", "_law_s", "_law_family", "_law_ends_here", "_law_pts", "_law_words", "_law_node", "_law_others", "_law_side", "_law_second", "_law_cell", "_law_one", "_law_two", "_law_top", "_law_number", "_law_both", "_law_paper", "_law_papers", "_law_inner", "_law_flipped", "_law_point", "_law_corner", "_law_told", "_law_some", "_law_other"]) (sc := defScope sLaw) rfl rfl (by decide +kernel))) da_nil)))
      (dss_cons (ds_set 22 scLaw.nd (de_fn c_even_corner hr (df_cons (de_fn c_even_exchanged hr (df_cons (de_var 19) (df_cons (de_revO (de_tupRg rfl B.tuple B.range (de_var 2))) df_nil))) df_nil)))
      (dss_cons (ds_append 18 (de_tup (da_cons de_str (da_cons (de_var 20) (da_cons (de_var 22) da_nil)))))
      (dss_freeze 18 (dss_cons (ds_for PassesOwn.never rfl (di_list (de_var 18)) (dg_tup (n := 3) rfl (dgs_cons (dg_name 23 scLaw.nd) (dgs_cons (dg_name 24 scLaw.nd) (dgs_cons (dg_name 25 scLaw.nd) dgs_nil))))
      (dss_one (ds_if (dt_not (dt_val (de_fn c__law_holds hr (df_cons (de_var 24) (df_cons (de_var 23) (df_cons (de_var 15) (df_cons (de_var 25) df_nil)))))))
      (dss_one (ds_ret de_bl))
      dss_nil)))
      (dss_one (ds_ret (de_or (de_cmp op_eq l_eq (de_var 2) de_int) (de_one (de_fn c__law_shadows hr (df_feed 1 (df_cons (de_var 18) (df_cons (de_var 15) df_nil))))))))))))), ?_⟩
  intro n z fm both I ps o0 o4 o5 o6 o7 o8 o9 o10 o11 o12 o13 o14 o17 hn hps hpl papI
  have hbl : both.length ≤ 8 := papI.hold.hp.2.2
  obtain ⟨wI, papC⟩ := pap_corner papI
  have hhI := papI.hh
  have hhE := ht_exch n I
  have trE : TrOk n .inner (exch n I) := by
    have := trOk_of _ _ wI
    rwa [show (first n .inner).length = n by simp [first]] at this
  refine ⟨_, rfl, _, rfl, by rw [List.length_map]; omega, compD_map ePt (fun p => ePt p.reverse) both [] (fun p hpm F G hf => ⟨_, rfl, _, rfl, by rw [← List.map_reverse]; exact hf⟩) ⟨_, rfl, ?_⟩⟩
  refine ⟨_, rfl, _, rfl, (n : Int), rfl, by omega, by omega, (List.range n).map (fun (i : Nat) => (i : Int)), by rw [List.map_map]; rfl, I, n, .inner, rfl, hn, papI.tr, by omega, by omega, exch n I, n, .inner, rfl, noW_of _ _ wI, trE, by omega, by omega, ?_⟩
  refine ⟨_, rfl, by simp; omega, _, rfl, _, rfl, ?_⟩
  obtain ⟨qs, he, hall⟩ := more_pap hps papC
  refine ⟨_, rfl, ?_⟩
  rw [he]
  refine ⟨_, rfl, _, rfl, ?_⟩
  refine forD_inv ePap (fun rest ρ => ∃ a b c : Option S, (∀ p ∈ rest, p ∈ qs) ∧ ρ = [o0, some S.feed, some (S.val (D.int (n : Int))), some (S.val (eF fm)), o4, o5, o6, o7, o8, o9, o10, o11, o12, o13, o14, some (S.val (eQ z)), some (S.val (ePts both)), o17, some (S.val (D.lst (List.map ePap qs))), some (S.val (eTr I)), some (S.val (D.tup ([] ++ List.map (fun p => ePt (List.reverse p)) both))), none, some (S.val (eTr (cornerT (exch n I)))), a, b, c]) ?_ ?_ _ _ ⟨_, _, _, fun p hp => hp, rfl⟩
  · rintro ⟨f, pts, T⟩ rest ρ N hN ⟨a, b, c, hr, rfl⟩
    have k := hall _ (hr ⟨f, pts, T⟩ (by simp))
    refine ⟨_, rfl, rfl, _, _, rfl, _, _, rfl, _, _, rfl, rfl, ?_⟩
    refine ⟨_, rfl, _, rfl, _, rfl, _, rfl, f, n, pts, z, T, rfl, k.hold, true, rfl, ?_⟩
    exact hN _ ⟨_, _, _, fun p hp => hr p (by simp [hp]), rfl⟩
  · rintro ρ ⟨a, b, c, hr, rfl⟩
    refine ⟨_, rfl, ?_⟩
    rcases hn with rfl | rfl
    · exact ⟨true, rfl, true, rfl, ifT rfl⟩
    · refine ⟨false, rfl, false, rfl, ifF ?_⟩
      refine ⟨rfl, _, rfl, _, rfl, qs, z, rfl, fun p hp => ?_, rfl⟩
      have k := hall p hp
      exact ⟨fun x hx => (k.hold.hp.1 x hx).1, k.hold.hp.2.2, k.tr, Nat.le_trans k.hh (by decide), k.sh rfl⟩
end
end EP

set_option Elab.async false
set_option linter.all false
set_option maxRecDepth 100000
set_option maxHeartbeats 4000000
namespace EP
open PySem PySem.Spec PyProof.Rows L2 DL
section
variable {P : Program} {w : World} {K : PySem.W.Frag} {mg : Str → Option Value} {base : Heap}
theorem law_mid (B : Blt mg) (c__law_world : Cal P w K mg base "_law_world" 2 ["_law_feed_here", "_law_s"] cWorld) (c__law_full : Cal P w K mg base "_law_full" 10 ["_law_ends_here", "_law_words", "_law_cuts"] (cFull 10)) (c__law_small : Cal P w K mg base "_law_small" 2 ["_law_feed_here", "_law_family", "_law_s"] cSmall) (c__law_first : Cal P w K mg base "_law_first" 1 ["_law_s", "_law_family"] cLFirst) (c__law_frac : Cal P w K mg base "_law_frac" 1 ["_law_top", "_law_bottom"] cFraction) (c_even_joined : Cal P w K mg base "even_joined" 28 ["family", "sides", "one", "other"] cJoined) (c_even_corner : Cal P w K mg base "even_corner" 22 ["paper"] (cCorner 20)) (c__law_draw : Cal P w K mg base "_law_draw" 1 ["_law_feed_here", "_law_many"] cDraw) (c__law_order : Cal P w K mg base "_law_order" 2 ["_law_feed_here", "_law_s"] cOrder) (c__law_need : Cal P w K mg base "_law_need" 14 ["_law_pts", "_law_cell", "_law_node"] (cLNeed 10)) (c_even_inner : Cal P w K mg base "even_inner" 20 ["paper"] (cInner 20)) (c_even_exchanged : Cal P w K mg base "even_exchanged" 20 ["paper", "order"] (cExch 20)) (c__law_shadows : Cal P w K mg base "_law_shadows" 48 ["_law_feed_here", "_law_papers", "_law_number"] cShadows) (c__law_holds : Cal P w K mg base "_law_holds" 47 ["_law_pts", "_law_family", "_law_number", "_law_paper"] cHolds) : ∃ U : TDS, LawAt P w K mg base 15 U ∧ ∀ (n : Nat) (z : Rat) (fm : Fam) (both : List Pt) (G1 : Tr) (o0 o4 o5 o6 o7 o8 o9 o10 o11 o12 o13 o14 : Option S),
    (n = 1 ∨ n = 2) → fm ≠ .corner → PapOk n z fm both G1 →
    U lawE [o0, some .feed, some (.val (.int (n : Int))), some (.val (eF fm)), o4, o5, o6, o7, o8, o9, o10, o11, o12, o13, o14, some (.val (eQ z)), some (.val (ePts both)), some (.val (eTr G1)), none, none, none, none, none, none, none, none] := by
  obtain ⟨V, hV, h⟩ := law_end (P := P) (w := w) (base := base) B c__law_world c__law_full c__law_small c__law_first c__law_frac c_even_joined c_even_corner c__law_draw c__law_order c__law_need c_even_inner c_even_exchanged c__law_shadows c__law_holds
  refine ⟨_, fun f cdv A outer s H E hr => have r := hV f cdv A outer s H E hr; (dss_cons (ds_own 18 scLaw.nd (da_cons (de_tup (da_cons (de_var 3) (da_cons (de_var 16) (da_cons (de_var 17) da_nil)))) da_nil))
      (dss_cons (ds_set 19 scLaw.nd (de_var 17))
      (dss_cons (ds_if (dt_cmp op_eq l_eq (de_var 3) de_str)
      (dss_cons (ds_set 19 scLaw.nd (de_fn c_even_inner hr (df_cons (de_var 17) df_nil)))
      (dss_one (ds_append 18 (de_tup (da_cons de_str (da_cons (de_var 16) (da_cons (de_var 19) da_nil)))))))
      dss_nil)
      r))), ?_⟩
  intro n z fm both G1 o0 o4 o5 o6 o7 o8 o9 o10 o11 o12 o13 o14 hn hnc pap
  have hh := pap.hh
  refine ⟨_, rfl, _, rfl, _, rfl, ?_⟩
  refine ⟨_, rfl, ?_⟩
  cases fm with
  | corner => exact absurd rfl hnc
  | inner =>
    refine ⟨_, rfl, false, by simp [eF], false, rfl, ifF ?_⟩
    exact h n z .inner both G1 [⟨.inner, both, G1⟩] _ _ _ _ _ _ _ _ _ _ _ _ _ hn (fun p hp => by rw [List.mem_singleton.mp hp]; exact pap) (by simp) pap
  | round =>
    have papI := pap_inner pap
    refine ⟨_, rfl, true, by simp [eF], true, rfl, ifT ?_⟩
    refine ⟨_, rfl, G1, rfl, by omega, by omega, ?_⟩
    refine ⟨_, rfl, by simp, _, rfl, _, rfl, ?_⟩
    exact h n z .round both (innerT G1) [⟨.round, both, G1⟩, ⟨.inner, both, innerT G1⟩] _ _ _ _ _ _ _ _ _ _ _ _ _ hn (fun p hp => by
      rcases List.mem_cons.mp hp with rfl | hp
      · exact pap
      · rw [List.mem_singleton.mp hp]; exact papI) (by simp) papI
end
end EP

set_option Elab.async false
set_option linter.all false
set_option maxRecDepth 100000
set_option maxHeartbeats 4000000
namespace EP
open PySem PySem.Spec PyProof.Rows L2 DL
section
variable {P : Program} {w : World} {K : PySem.W.Frag} {mg : Str → Option Value} {base : Heap}
theorem law_num (B : Blt mg) (c__law_world : Cal P w K mg base "_law_world" 2 ["_law_feed_here", "_law_s"] cWorld) (c__law_full : Cal P w K mg base "_law_full" 10 ["_law_ends_here", "_law_words", "_law_cuts"] (cFull 10)) (c__law_small : Cal P w K mg base "_law_small" 2 ["_law_feed_here", "_law_family", "_law_s"] cSmall) (c__law_first : Cal P w K mg base "_law_first" 1 ["_law_s", "_law_family"] cLFirst) (c__law_frac : Cal P w K mg base "_law_frac" 1 ["_law_top", "_law_bottom"] cFraction) (c_even_joined : Cal P w K mg base "even_joined" 28 ["family", "sides", "one", "other"] cJoined) (c_even_corner : Cal P w K mg base "even_corner" 22 ["paper"] (cCorner 20)) (c__law_draw : Cal P w K mg base "_law_draw" 1 ["_law_feed_here", "_law_many"] cDraw) (c__law_order : Cal P w K mg base "_law_order" 2 ["_law_feed_here", "_law_s"] cOrder) (c__law_need : Cal P w K mg base "_law_need" 14 ["_law_pts", "_law_cell", "_law_node"] (cLNeed 10)) (c_even_inner : Cal P w K mg base "even_inner" 20 ["paper"] (cInner 20)) (c_even_exchanged : Cal P w K mg base "even_exchanged" 20 ["paper", "order"] (cExch 20)) (c__law_shadows : Cal P w K mg base "_law_shadows" 48 ["_law_feed_here", "_law_papers", "_law_number"] cShadows) (c__law_holds : Cal P w K mg base "_law_holds" 47 ["_law_pts", "_law_family", "_law_number", "_law_paper"] cHolds) : ∃ U : TDS, LawAt P w K mg base 9 U ∧ ∀ (n : Nat) (fm : Fam) (pts : List Pt) (p0 : Pt) (T1 T2 : Tr) (o0 o4 o6 o9 : Option S),
    (n = 1 ∨ n = 2) → fm ≠ .corner → PtsOk n pts → pts.length ≤ 6 → PtsOk n [p0] → Wf fm (first n fm) T1 → ht T1 ≤ 6 → Wf fm (first n fm) T2 → ht T2 ≤ 3 →
    U lawE [o0, some .feed, some (.val (.int (n : Int))), some (.val (eF fm)), o4, some (.val (ePts pts)), o6, some (.val (eTr T1)), some (.val (ePts [p0])), o9, some (.val (eTr T2)), some (.val (lCell (first n fm))), none, none, none, none, none, none, none, none, none, none, none, none, none, none] := by
  obtain ⟨V, hV, h⟩ := law_mid (P := P) (w := w) (base := base) B c__law_world c__law_full c__law_small c__law_first c__law_frac c_even_joined c_even_corner c__law_draw c__law_order c__law_need c_even_inner c_even_exchanged c__law_shadows c__law_holds
  refine ⟨_, fun f cdv A outer s H E hr => have r := hV f cdv A outer s H E hr; (dss_cons (ds_par 12 13 rfl scLaw.nd (da_cons (de_fn c__law_need hr (df_cons (de_var 5) (df_cons (de_var 11) (df_cons (de_var 7) df_nil)))) (da_cons (de_fn c__law_need hr (df_cons (de_var 8) (df_cons (de_var 11) (df_cons (de_var 10) df_nil)))) da_nil)))
      (dss_cons (ds_set 14 scLaw.nd (de_op op_add l_I0 (de_op op_mulW l_I (de_op op_mulW l_I (de_callB call_len_seq l_len B.len PySem.boot_len (da_cons (de_var 5) da_nil)) (de_ix ix_any l_ix (de_var 12) de_int)) (de_ix ix_any l_ix (de_var 13) de_int)) (de_op op_mulW l_I (de_op op_mulW l_I (de_callB call_len_seq l_len B.len PySem.boot_len (da_cons (de_var 8) da_nil)) (de_ix ix_any l_ix (de_var 13) de_int)) (de_ix ix_any l_ix (de_var 12) de_int))))
      (dss_cons (ds_set 15 scLaw.nd (de_fn c__law_frac hr (df_cons (de_var 14) (df_cons (de_op op_mulW l_I (de_op op_mulW l_I (de_ix ix_any l_ix (de_var 12) de_int) (de_ix ix_any l_ix (de_var 13) de_int)) (de_op op_add l_I0 (de_callB call_len_seq l_len B.len PySem.boot_len (da_cons (de_var 5) da_nil)) (de_callB call_len_seq l_len B.len PySem.boot_len (da_cons (de_var 8) da_nil)))) df_nil))))
      (dss_cons (ds_set 16 scLaw.nd (de_op op_catA l_catT (de_var 5) (de_var 8)))
      (dss_cons (ds_set 17 scLaw.nd (de_fn c_even_joined hr (df_cons (de_var 3) (df_cons (de_var 2) (df_cons (de_var 7) (df_cons (de_var 10) df_nil))))))
      (dss_cons (ds_if (dt_cmp op_eq l_eq (de_fn c__law_draw hr (df_feed 1 (df_cons de_int df_nil))) de_int)
      (dss_cons (ds_set 16 scLaw.nd (de_op op_catA l_catT (de_var 8) (de_var 5)))
      (dss_one (ds_set 17 scLaw.nd (de_fn c_even_joined hr (df_cons (de_var 3) (df_cons (de_var 2) (df_cons (de_var 10) (df_cons (de_var 7) df_nil))))))))
      dss_nil)
      r)))))), ?_⟩
  intro n fm pts p0 T1 T2 o0 o4 o6 o9 hn hnc hP h6 hp w1 h1 w2 h2
  have hfl := first_len n fm
  have q1 := sm_need hP T1 _ (first_ok n fm hn) w1
  have q2 := sm_need hp T2 _ (first_ok n fm hn) w2
  have hp1 : 1 ≤ pts.length := hP.2.1
  obtain ⟨z, N⟩ := num_all (m := (pts.map ePt).length) (k := (List.map ePt [p0]).length) (by simp; omega) (by simp; omega) (by simp) (by simp) q1 q2
  obtain ⟨pap1, pap2⟩ := pap_both hn hP h6 hp w1 w2 (by omega) N
  have tr1 : TrOk n fm T1 := by have := trOk_of T1 _ w1; rwa [hfl] at this
  have tr2 : TrOk n fm T2 := by have := trOk_of T2 _ w2; rwa [hfl] at this
  refine ⟨_, rfl, _, rfl, _, rfl, pts, first n fm, fm, T1, rfl, first_ok n fm hn, first_R n fm, w1, by rw [hfl]; exact hP, by omega, by omega, ?_⟩
  refine ⟨_, rfl, _, rfl, _, rfl, [p0], first n fm, fm, T2, rfl, first_ok n fm hn, first_R n fm, w2, by rw [hfl]; exact hp, by omega, by omega, _, _, rfl, ?_⟩
  refine ⟨_, rfl, _, _, rfl, rfl, _, rfl, _, rfl, _, _, rfl, rfl, N.m1, _, rfl, _, rfl, _, _, rfl, rfl, N.m2, _, rfl, _, _, rfl, rfl, _, rfl, _, rfl, _, _, rfl, rfl, N.m3, _, rfl, _, rfl, _, _, rfl, rfl, N.m4, _, _, rfl, rfl, ?_⟩
  refine ⟨_, rfl, _, rfl, _, rfl, _, rfl, _, rfl, _, _, rfl, rfl, N.m5, _, rfl, _, _, rfl, rfl, _, rfl, _, _, rfl, rfl, _, _, rfl, rfl, _, _, rfl, rfl, N.m6, _, _, rfl, N.t3, N.t1, N.t2, ?_⟩
  rw [N.hz]
  refine ⟨_, rfl, _, rfl, pts.map ePt, List.map ePt [p0], rfl, rfl, by simp; omega, ?_⟩
  refine ⟨_, rfl, _, rfl, _, rfl, _, rfl, fm, n, T1, T2, rfl, hn, tr1, tr2, by omega, ?_⟩
  rw [show List.map ePt pts ++ List.map ePt [p0] = List.map ePt (pts ++ [p0]) from List.map_append.symm]
  refine ⟨rfl, 2, rfl, by decide, by decide, fun r3 hr30 hr31 => ⟨_, rfl, _, rfl, ?_⟩⟩
  refine ite2 (fun cc => ?_) (fun cc => ?_)
  · refine ⟨_, rfl, _, rfl, List.map ePt [p0], pts.map ePt, rfl, rfl, by simp; omega, ?_⟩
    refine ⟨_, rfl, _, rfl, _, rfl, _, rfl, fm, n, T2, T1, rfl, hn, tr2, tr1, by omega, ?_⟩
    rw [show List.map ePt [p0] ++ List.map ePt pts = List.map ePt ([p0] ++ pts) from List.map_append.symm]
    exact h n z fm ([p0] ++ pts) (graft (first n fm) T2 T1) _ _ _ _ _ _ _ _ _ _ _ _ hn hnc pap2
  · exact h n z fm (pts ++ [p0]) (graft (first n fm) T1 T2) _ _ _ _ _ _ _ _ _ _ _ _ hn hnc pap1
end
end EP

set_option Elab.async false
set_option linter.all false
set_option maxRecDepth 100000
set_option maxHeartbeats 4000000
namespace EP
open PySem PySem.Spec PyProof.Rows L2 DL
section
variable {P : Program} {w : World} {K : PySem.W.Frag} {mg : Str → Option Value} {base : Heap}
theorem law_beg (B : Blt mg) (c__law_world : Cal P w K mg base "_law_world" 2 ["_law_feed_here", "_law_s"] cWorld) (c__law_full : Cal P w K mg base "_law_full" 10 ["_law_ends_here", "_law_words", "_law_cuts"] (cFull 10)) (c__law_small : Cal P w K mg base "_law_small" 2 ["_law_feed_here", "_law_family", "_law_s"] cSmall) (c__law_first : Cal P w K mg base "_law_first" 1 ["_law_s", "_law_family"] cLFirst) (c__law_frac : Cal P w K mg base "_law_frac" 1 ["_law_top", "_law_bottom"] cFraction) (c_even_joined : Cal P w K mg base "even_joined" 28 ["family", "sides", "one", "other"] cJoined) (c_even_corner : Cal P w K mg base "even_corner" 22 ["paper"] (cCorner 20)) (c__law_draw : Cal P w K mg base "_law_draw" 1 ["_law_feed_here", "_law_many"] cDraw) (c__law_order : Cal P w K mg base "_law_order" 2 ["_law_feed_here", "_law_s"] cOrder) (c__law_need : Cal P w K mg base "_law_need" 14 ["_law_pts", "_law_cell", "_law_node"] (cLNeed 10)) (c_even_inner : Cal P w K mg base "even_inner" 20 ["paper"] (cInner 20)) (c_even_exchanged : Cal P w K mg base "even_exchanged" 20 ["paper", "order"] (cExch 20)) (c__law_shadows : Cal P w K mg base "_law_shadows" 48 ["_law_feed_here", "_law_papers", "_law_number"] cShadows) (c__law_holds : Cal P w K mg base "_law_holds" 47 ["_law_pts", "_law_family", "_law_number", "_law_paper"] cHolds) : ∃ U : TDS, LawAt P w K mg base 1 U ∧ U lawE [none, some .feed, none, none, none, none, none, none, none, none, none, none, none, none, none, none, none, none, none, none, none, none, none, none, none, none] := by
  obtain ⟨Vt, hV, h⟩ := law_num (P := P) (w := w) (base := base) B c__law_world c__law_full c__law_small c__law_first c__law_frac c_even_joined c_even_corner c__law_draw c__law_order c__law_need c_even_inner c_even_exchanged c__law_shadows c__law_holds
  refine ⟨_, fun f cdv A outer s H E hr => have r := hV f cdv A outer s H E hr; (dss_cons (ds_set 2 scLaw.nd (de_ix ix_any l_ix (de_lst (da_cons de_int (da_cons de_int (da_cons de_int da_nil)))) (de_fn c__law_draw hr (df_feed 1 (df_cons de_int df_nil)))))
      (dss_cons (ds_set 3 scLaw.nd (de_ix ix_any l_ix (de_lst (da_cons de_str (da_cons de_str da_nil))) (de_fn c__law_draw hr (df_feed 1 (df_cons (de_var 2) df_nil)))))
      (dss_cons (ds_asg (de_fn c__law_world hr (df_feed 1 (df_cons (de_var 2) df_nil))) (dg_tup (n := 2) rfl (dgs_cons (dg_name 4 scLaw.nd) (dgs_cons (dg_name 5 scLaw.nd) dgs_nil))))
      (dss_cons (ds_set 6 scLaw.nd (de_op op_rep l_repL (de_lst (da_cons (de_dictIx [(.inr "round", .non), (.inr "inner", .str "from")] (hu_of hr) (pps_cons pe_str pe_non (pps_cons pe_str pe_str pps_nil)) (de_var 3)) da_nil)) (de_var 2)))
      (dss_cons (ds_set 7 scLaw.nd (de_fn c__law_full hr (df_cons (de_var 4) (df_cons (de_var 6) (df_cons (de_fn c__law_order hr (df_feed 1 (df_cons (de_var 2) df_nil))) df_nil)))))
      (dss_cons (ds_set 8 scLaw.nd (de_tup (da_cons (de_callTy call_tuple_of l_tupOf B.tuple boot_tuple_ (da_cons (de_comp [("_law_side", 9)] rfl scLaw.nd (di_range B.range (de_var 2)) (fun _ _ _ _ _ => (dg_name 9 scLaw.nd)) (fun _ _ _ _ _ => dts_nil) (fun _ _ _ _ _ => (de_fn c__law_frac hr (df_cons (de_fn c__law_draw hr (df_feed 1 (df_cons de_int df_nil))) (df_cons de_int df_nil)))) (blk_ok (N := ["_law_script", "_law_feed_here", "_law_s", "_law_family", "_law_ends_here", "_law_pts", "_law_words", "_law_node", "_law_others", "_law_side", "_law_second", "_law_cell", "_law_one", "_law_two", "_law_top", "_law_number", "_law_both", "_law_paper", "_law_papers", "_law_inner", "_law_flipped", "_law_point", "_law_corner", "_law_told", "_law_some", "_law_other"]) (sc := defScope sLaw) rfl rfl (by decide +kernel))) da_nil)) da_nil)))
      (dss_cons (ds_set 10 scLaw.nd (de_fn c__law_small hr (df_feed 1 (df_cons (de_var 3) (df_cons (de_var 2) df_nil)))))
      (dss_cons (ds_set 11 scLaw.nd (de_fn c__law_first hr (df_cons (de_var 2) (df_cons (de_var 3) df_nil))))
      r)))))))), ?_⟩
  have hn3 : ∀ r : Int, 0 ≤ r → r < 3 → ∃ n : Nat, ixD (.lst [.int 1, .int 2, .int 2]) (.int r) = some (.int (n : Int)) ∧ (n = 1 ∨ n = 2) := fun r h0 h1 => by
    have : r = 0 ∨ r = 1 ∨ r = 2 := by omega
    rcases this with rfl | rfl | rfl
    · exact ⟨1, rfl, .inl rfl⟩
    · exact ⟨2, rfl, .inr rfl⟩
    · exact ⟨2, rfl, .inr rfl⟩
  refine ⟨rfl, 3, rfl, by decide, by decide, fun r hr0 hr1 => ?_⟩
  obtain ⟨n, hn, hn12⟩ := hn3 r hr0 hr1
  refine ⟨_, hn, ?_⟩
  have hf2 : ∀ r : Int, 0 ≤ r → r < n → ∃ f : Fam, ixD (.lst [.str "round", .str "inner"]) (.int r) = some (eF f) ∧ f ≠ .corner := fun r h0 h1 => by
    have : r = 0 ∨ r = 1 := by omega
    rcases this with rfl | rfl
    · exact ⟨.round, rfl, by simp⟩
    · exact ⟨.inner, rfl, by simp⟩
  refine ⟨rfl, _, rfl, n, rfl, by omega, by omega, fun r2 hr20 hr21 => ?_⟩
  obtain ⟨fm, hfm, hnc⟩ := hf2 r2 hr20 hr21
  refine ⟨_, hfm, ?_⟩
  refine ⟨rfl, _, rfl, n, rfl, hn12, fun ends pts he1 he2 hp hp1 hp6 => ?_⟩
  refine ⟨_, rfl, rfl, _, _, rfl, _, _, rfl, rfl, ?_⟩
  have hdict : ∀ F : D → Prop, F (eW (firstC fm).w) → ∃ s v d, eF fm = .str s ∧ valV (mergeK [] [(.inr "round", V.non), (.inr "inner", V.str "from")]) (.inr s) = some v ∧ (∀ K H0, Rep K H0 v d) ∧ F d := fun F hF => by
    cases fm with
    | corner => exact absurd rfl hnc
    | inner => exact ⟨_, _, _, rfl, rfl, fun _ _ => .str _, hF⟩
    | round => exact ⟨_, _, _, rfl, rfl, fun _ _ => .non, hF⟩
  refine ⟨_, rfl, hdict _ ⟨_, rfl, _, (n : Int), rfl, rfl, by omega, by omega, by simp, ?_⟩⟩
  have hws : D.lst (List.replicate (n : Int).toNat [eW (firstC fm).w]).flatten = .lst ((List.replicate n (firstC fm).w).map eW) := by
    rcases hn12 with rfl | rfl <;> rfl
  rw [hws]
  have hPts : PtsOk n pts := ⟨hp, hp1, by omega⟩
  refine ⟨_, rfl, _, rfl, rfl, _, rfl, n, rfl, by omega, fun cuts hnd hcu hcl => ?_⟩
  have hwun : cUn (List.replicate n (firstC fm).w) ≤ 2 := Nat.le_trans List.countP_le_length (by simp; omega)
  refine ⟨ends, List.replicate n (firstC fm).w, cuts, fm, rfl, ⟨hnc, fun v hv => ?_, he2, by simp [he1], by simp; omega, hnd, by simpa using hcu, hcl⟩, by omega, fun T1 hT1 hh1 => ?_⟩
  · have := List.eq_of_mem_replicate hv
    subst this
    cases fm <;> simp [firstC] at hnc ⊢
  have w1 : Wf fm (first n fm) T1 := hT1 _ ⟨by simp [first], fun z hz => by
    have := getC_mem (cell := first n fm) (s := z.1) (by simpa [first] using hcu z hz)
    rw [List.eq_of_mem_replicate this]
    cases z.2 <;> rfl⟩
  have h12 : ∀ r : Int, 0 ≤ r → r < 12 → CoOk (mkRat r 12) := fun r h0 h1 => co_frac h0 h1
  refine ⟨_, rfl, (n : Int), rfl, by omega, by omega, by simp [rangeD]; omega, ?_⟩
  show CompD _ _ _ _ _ ((List.range (n : Int).toNat).map fun (i : Nat) => D.int (i : Int)) []
  refine compD_rel (fun (i : Nat) => D.int (i : Int)) (fun _ y => ∃ q, y = eQ q ∧ CoOk q) _ [] ?_ ?_
  · intro i hi F G hF
    refine ⟨rfl, 12, rfl, by decide, by decide, fun r h0 h1 => ⟨r, 12, rfl, by decide, ?_, pow_12, ?_⟩⟩
    · exact Nat.lt_of_le_of_lt (show r.natAbs ≤ 12 by omega) pow_12
    · exact hF _ ⟨_, rfl, h12 r h0 h1⟩
  intro ys hys
  obtain ⟨p0, rfl, hpl, hpc⟩ := pts_gen hys
  refine ⟨_, rfl, ?_⟩
  have hp0 : PtsOk n [p0] := ⟨fun p hpm => by
    rw [List.mem_singleton.mp hpm]
    exact ⟨by simpa using hpl, hpc⟩, by simp, by simp⟩
  refine ⟨rfl, _, rfl, _, rfl, fm, n, rfl, hn12, hnc, fun T2 w2 hh2 => ?_⟩
  refine ⟨_, rfl, _, rfl, n, fm, rfl, hn12, ?_⟩
  exact h n fm pts p0 T1 T2 _ _ _ _ hn12 hnc hPts hp6 hp0 w1 (by omega) w2 hh2
end
end EP

set_option Elab.async false
set_option linter.all false
set_option maxRecDepth 100000
set_option maxHeartbeats 4000000
namespace EP
open PySem PySem.Spec PyProof.Rows L2 DL
/-- what stands still at the start: the feed's list of cells alone -/
def H1 (H : Hp) (c : Addr) : Hp := fun x => if x = c then H c else none
theorem no_slot {i : Nat} {x : S} (h : ([none, some .feed, none, none, none, none, none, none, none, none, none, none, none, none, none, none, none, none, none, none, none, none, none, none, none, none] : DEnv)[i]? = some (some x)) : i = 1 ∧ x = .feed := by
  match i, h with
  | 1, h => cases h; exact ⟨rfl, rfl⟩
  | 0, h | 2, h | 3, h | 4, h | 5, h | 6, h | 7, h | 8, h | 9, h | 10, h | 11, h | 12, h | 13, h | 14, h | 15, h | 16, h | 17, h | 18, h | 19, h | 20, h | 21, h | 22, h | 23, h | 24, h | 25, h => cases h
  | n + 26, h => cases h
theorem hd_feed {K : PySem.W.Frag} {H : Hp} {f c : Addr} {ms : List Int} {σ : L2.St} (hl : ms.length ≤ 63) (hcf : c ≠ f) (hc : H c = some (.lst (ms.map V.int))) (hf : H f = some (.dK (feedKvs c 0 0 0))) (h26 : σ.length = 26) (h1 : σ[1]? = some (some (.ref f))) :
    Hd K ⟨H1 H c, H, H1 H c⟩ [none, some .feed, none, none, none, none, none, none, none, none, none, none, none, none, none, none, none, none, none, none, none, none, none, none, none, none] (H1 H c) σ H := by
  have e1 : H1 H c c = some (.lst (ms.map V.int)) := by
    unfold H1
    rw [if_pos rfl]
    exact hc
  refine ⟨fun a o q => ?_, Gr.refl _ _ _, Ex.refl _, h26, fun i d q => ?_, fun i ds q => ?_, fun i q => ?_, fun i j ds es p q _ _ _ => ?_⟩
  · unfold H1 at q
    split at q
    · rename_i e
      subst e
      exact q
    · cases q
  · exact nomatch (no_slot q).2
  · exact nomatch (no_slot q).2
  · obtain ⟨rfl, _⟩ := no_slot q
    refine ⟨f, h1, ?_, _, hf, c, ms, 0, 0, 0, rfl, e1, hl⟩
    unfold H1
    rw [if_neg (Ne.symm hcf)]
  · exact nomatch (no_slot q).2
section
variable {P : Program} {w : World} {K : PySem.W.Frag} {mg : Str → Option Value} {base : Heap}
theorem ok_law {f : Addr} {fd : FuncData} (F : L2.Fun K "law" "law" sLaw f fd) (B : Blt mg) (c__law_world : Cal P w K mg base "_law_world" 2 ["_law_feed_here", "_law_s"] cWorld) (c__law_full : Cal P w K mg base "_law_full" 10 ["_law_ends_here", "_law_words", "_law_cuts"] (cFull 10)) (c__law_small : Cal P w K mg base "_law_small" 2 ["_law_feed_here", "_law_family", "_law_s"] cSmall) (c__law_first : Cal P w K mg base "_law_first" 1 ["_law_s", "_law_family"] cLFirst) (c__law_frac : Cal P w K mg base "_law_frac" 1 ["_law_top", "_law_bottom"] cFraction) (c_even_joined : Cal P w K mg base "even_joined" 28 ["family", "sides", "one", "other"] cJoined) (c_even_corner : Cal P w K mg base "even_corner" 22 ["paper"] (cCorner 20)) (c__law_draw : Cal P w K mg base "_law_draw" 1 ["_law_feed_here", "_law_many"] cDraw) (c__law_order : Cal P w K mg base "_law_order" 2 ["_law_feed_here", "_law_s"] cOrder) (c__law_need : Cal P w K mg base "_law_need" 14 ["_law_pts", "_law_cell", "_law_node"] (cLNeed 10)) (c_even_inner : Cal P w K mg base "even_inner" 20 ["paper"] (cInner 20)) (c_even_exchanged : Cal P w K mg base "even_exchanged" 20 ["paper", "order"] (cExch 20)) (c__law_shadows : Cal P w K mg base "_law_shadows" 48 ["_law_feed_here", "_law_papers", "_law_number"] cShadows) (c__law_holds : Cal P w K mg base "_law_holds" 47 ["_law_pts", "_law_family", "_law_number", "_law_paper"] cHolds) (c_feed : ∃ f fd, FnOk P w K mg base CX0 1 f fd ["_law_script"] (spFeed K) ∧ mg "_law_feed" = some (.ref f) ∧ PySem.W.keepIn K (.ref f) = true ∧ Binds K fd ["_law_script"] []) :
    FnOk P w K mg base CX0 49 f fd ["_law_script"] (spLaw K) := by
  obtain ⟨gf, gfd, G, gm, gk, gb⟩ := c_feed
  obtain ⟨T, hT, hU⟩ := law_beg (P := P) (w := w) (base := base) B c__law_world c__law_full c__law_small c__law_first c__law_frac c_even_joined c_even_corner c__law_draw c__law_order c__law_need c_even_inner c_even_exchanged c__law_shadows c__law_holds
  refine F.ok scLaw (fun vs H Q E h => ?_) (fun cdv A outer s H vs Q E hr h => ?_)
  · obtain ⟨a, ns, rfl, _⟩ := h
    rfl
  obtain ⟨a, ns, rfl, hS, h63, q⟩ := h
  obtain ⟨t, p, v⟩ := hT f cdv A outer s H E hr
  refine ⟨_, pss_cons (ps_set scLaw.nd (i := 1) rfl (by first | exact .inl rfl | exact .inr rfl) (pe_call (E := E0) G (hr.mono (by decide)) rfl gm gk gb .nil pass0 (pa_cons (pe_var (i := 0) rfl (Or.inl rfl) (by decide) (by decide)) pa_nil)) rfl (by first | exact .inl rfl | exact .inr rfl)) p, ?_⟩
  refine ⟨_, rfl, a, ns, rfl, hS, fun f' c ms H' hl hcf hc hf => ?_⟩
  refine v _ _ _ _ H' lawE _ (hd_feed hl hcf hc hf rfl rfl) ⟨fun _ _ _ _ _ z => z.elim, fun d w H0 H2 _ _ r e => ?_, fun _ _ _ _ _ z => z.elim, fun _ _ _ _ _ z => z.elim⟩ hU
  subst e
  cases r
  exact q _
end
end EP

set_option Elab.async false
set_option linter.all false
set_option maxRecDepth 100000
set_option maxHeartbeats 0
namespace EP
open PySem PySem.Spec PyProof.Rows L2 DL HX
def vOf : Value → V
  | .int i _ => .int i
  | .ref a => .ref a
  | _ => .non
mutual
def toD : CV → D
  | .int i => .int i
  | .tup cs => .tup (toDs cs)
def toDs : List CV → List D
  | [] => []
  | c :: cs => toD c :: toDs cs
end
theorem vOf_rel {u : Value} {d : CV} {K : PySem.W.Frag} {n : Nat} (h : repB K n u d = true) : RelV (vOf u) u := by
  cases n with
  | zero => cases u <;> cases d <;> cases h
  | succ n =>
    cases u with
    | int j t => exact ⟨t, rfl⟩
    | ref a => rfl
    | _ => cases d <;> cases h
mutual
theorem repB_ok {K : PySem.W.Frag} {H0 : Hp} : ∀ (n : Nat) (u : Value) (d : CV), repB K n u d = true → Rep K H0 (vOf u) (toD d)
  | 0, u, d, h => by cases u <;> cases d <;> cases h
  | n + 1, u, d, h => by
    cases u with
    | int j t =>
      cases d with
      | int i =>
        have e : j = i := of_decide_eq_true h
        subst e
        exact .int j
      | _ => cases h
    | ref a =>
      cases d with
      | tup ds =>
        have h1 : (match K.lookup a with
          | some ⟨.type c, _, .seq its _, _⟩ => decide (c = "tuple") && (decide (its.size ≤ sizeLine) && repsB K n its.toList ds)
          | _ => false) = true := h
        cases q : K.lookup a with
        | none =>
          rw [q] at h1
          cases h1
        | some o =>
          obtain ⟨oc, od, dt, osl⟩ := o
          rw [q] at h1
          cases oc with
          | type c =>
            cases dt with
            | seq its m =>
              obtain ⟨h2, h3⟩ := He.ba (show (decide (c = "tuple") && (decide (its.size ≤ sizeLine) && repsB K n its.toList ds)) = true from h1)
              obtain ⟨h4, h5⟩ := He.ba h3
              obtain ⟨r, s⟩ := repsB_ok (H0 := H0) n its.toList ds h5
              exact .tup (.inr ⟨_, its, m, q, congrArg Value.type (of_decide_eq_true h2), rfl, of_decide_eq_true h4, s⟩) r
            | _ => cases h1
          | _ => cases dt <;> cases h1
      | _ => cases h
    | _ => cases d <;> cases h
theorem repsB_ok {K : PySem.W.Frag} {H0 : Hp} : ∀ (n : Nat) (us : List Value) (ds : List CV), repsB K n us ds = true → Reps K H0 (us.map vOf) (toDs ds) ∧ Vals (us.map vOf) us
  | 0, us, ds, h => by cases us <;> cases ds <;> cases h
  | n + 1, [], [], h => ⟨.nil, .nil⟩
  | n + 1, [], _ :: _, h => by cases h
  | n + 1, _ :: _, [], h => by cases h
  | n + 1, u :: us, d :: ds, h => by
    obtain ⟨h1, h2⟩ := He.ba (show (repB K n u d && repsB K n us ds) = true from h)
    obtain ⟨r, s⟩ := repsB_ok (H0 := H0) n us ds h2
    exact ⟨.cons (repB_ok n u d h1) r, .cons (vOf_rel h1) s⟩
end
theorem conB_ok {K : PySem.W.Frag} {h : Heap} {mg : Str → Option Value} (X : K.In h) (G : h.Ns mainGlobals mg) {c : Str × CV} (e : conB K c = true) : Con K mg c.1 (toD c.2) := by
  unfold conB at e
  cases q : PySem.W.nsIn K mainGlobals c.1 with
  | none =>
    rw [q] at e
    cases e
  | some o =>
    rw [q] at e
    cases o with
    | none => cases e
    | some u => exact ⟨vOf u, u, PySem.W.mg_of X G q, vOf_rel e, fun H0 => repB_ok 12 u c.2 e⟩
/-! ### the facts, by names -/
section
variable {P : Program} {w : World} {K : PySem.W.Frag} {mg : Str → Option Value} {base h : Heap}
theorem fun_of {x : Str} {st : Stmt} {f : Addr} {fd : FuncData} (F : FunD K x x (defArgs st) (defBody st) (defScope st) [] [] f fd) : L2.Fun K x x st f fd := by
  obtain ⟨oc, od, dV, kV, doc, pm, an, cdv, ct, osl, e, lk, hcd, hD, hK⟩ := F.ex
  rcases hD with ⟨_, rfl⟩ | ⟨e, _⟩
  · exact ⟨⟨oc, od, kV, doc, pm, an, cdv, ct, osl, e, lk, hcd⟩, F.kp⟩
  · exact absurd rfl e
theorem def_of {x q : Str} {st : Stmt} {ps : List Str} (X : K.In h) (G : h.Ns mainGlobals mg) (c : SaysK K) (i j : Nat) (hd : defs[i]? = some ⟨(x, none), q, q, defArgs st, defBody st, defScope st, [], []⟩) (hf : facts[j]? = some (.glo x))
    (hb : ∀ (kV doc pm : Value) (an : Option Addr) (cdv ct : Value) (us : List Value), us.length = ps.length → bindArgs (PySem.W.fnOf q q (defArgs st) (defBody st) (defScope st) .none kV doc pm an cdv ct) ⟨us, []⟩ = pure (ps.zip us)) : Def K mg x q st ps := by
  obtain ⟨fd, F⟩ := c.1.def_ i hd
  exact ⟨_, fd, fun_of F, He.glo_ok X G (c.1.fact j hf), FunD.bindsN F hb⟩
theorem con_of {x : Str} {d : D} (X : K.In h) (G : h.Ns mainGlobals mg) (c : SaysK K) (i : Nat) {v : CV} (hd : cons[i]? = some (x, v)) (hv : toD v = d) : Con K mg x d := by
  subst hv
  exact conB_ok X G (c := (x, v)) (List.all_eq_true.mp c.2 _ (List.mem_of_getElem? hd))
theorem d_shared (X : K.In h) (G : h.Ns mainGlobals mg) (c : SaysK K) : Def K mg "shared" "shared" sShared ["one", "other"] := def_of X G c 0 0 rfl rfl (fun _ _ _ _ _ _ us hl => match us, hl with | [_, _], _ => rfl)
theorem d_fraction (X : K.In h) (G : h.Ns mainGlobals mg) (c : SaysK K) : Def K mg "fraction" "fraction" sFraction ["top", "bottom"] := def_of X G c 1 1 rfl rfl (fun _ _ _ _ _ _ us hl => match us, hl with | [_, _], _ => rfl)
theorem d_plus (X : K.In h) (G : h.Ns mainGlobals mg) (c : SaysK K) : Def K mg "plus" "plus" sPlus ["one", "other"] := def_of X G c 2 2 rfl rfl (fun _ _ _ _ _ _ us hl => match us, hl with | [_, _], _ => rfl)
theorem d_less (X : K.In h) (G : h.Ns mainGlobals mg) (c : SaysK K) : Def K mg "less" "less" sLess ["one", "other"] := def_of X G c 3 3 rfl rfl (fun _ _ _ _ _ _ us hl => match us, hl with | [_, _], _ => rfl)
theorem d_times (X : K.In h) (G : h.Ns mainGlobals mg) (c : SaysK K) : Def K mg "times" "times" sTimes ["one", "other"] := def_of X G c 4 4 rfl rfl (fun _ _ _ _ _ _ us hl => match us, hl with | [_, _], _ => rfl)
theorem d_is_below (X : K.In h) (G : h.Ns mainGlobals mg) (c : SaysK K) : Def K mg "is_below" "is_below" sIsBelow ["one", "other"] := def_of X G c 5 5 rfl rfl (fun _ _ _ _ _ _ us hl => match us, hl with | [_, _], _ => rfl)
theorem d_from_nought_cells (X : K.In h) (G : h.Ns mainGlobals mg) (c : SaysK K) : Def K mg "from_nought_cells" "from_nought" sFromNought ["x"] := def_of X G c 6 6 rfl rfl (fun _ _ _ _ _ _ us hl => match us, hl with | [_], _ => rfl)
theorem d_from_nought_boxes (X : K.In h) (G : h.Ns mainGlobals mg) (c : SaysK K) : Def K mg "from_nought_boxes" "from_nought" sFromNought2 ["one"] := def_of X G c 7 7 rfl rfl (fun _ _ _ _ _ _ us hl => match us, hl with | [_], _ => rfl)
theorem d_is_surely (X : K.In h) (G : h.Ns mainGlobals mg) (c : SaysK K) : Def K mg "is_surely" "is_surely" sIsSurely ["x", "word", "ranges"] := def_of X G c 8 8 rfl rfl (fun _ _ _ _ _ _ us hl => match us, hl with | [_, _, _], _ => rfl)
theorem d_is_perhaps (X : K.In h) (G : h.Ns mainGlobals mg) (c : SaysK K) : Def K mg "is_perhaps" "is_perhaps" sIsPerhaps ["x", "word", "ranges"] := def_of X G c 9 9 rfl rfl (fun _ _ _ _ _ _ us hl => match us, hl with | [_, _, _], _ => rfl)
theorem d_side_between (X : K.In h) (G : h.Ns mainGlobals mg) (c : SaysK K) : Def K mg "side_between" "side_between" sSideBetween ["word", "first", "last"] := def_of X G c 10 10 rfl rfl (fun _ _ _ _ _ _ us hl => match us, hl with | [_, _, _], _ => rfl)
theorem d_side_sizes (X : K.In h) (G : h.Ns mainGlobals mg) (c : SaysK K) : Def K mg "side_sizes" "side_sizes" sSideSizes ["word", "ranges"] := def_of X G c 11 11 rfl rfl (fun _ _ _ _ _ _ us hl => match us, hl with | [_, _], _ => rfl)
theorem d_cell_told (X : K.In h) (G : h.Ns mainGlobals mg) (c : SaysK K) : Def K mg "cell_told" "cell_told" sCellTold ["points", "cell"] := def_of X G c 12 12 rfl rfl (fun _ _ _ _ _ _ us hl => match us, hl with | [_, _], _ => rfl)
theorem d_is_whole (X : K.In h) (G : h.Ns mainGlobals mg) (c : SaysK K) : Def K mg "is_whole" "is_whole" sIsWhole ["thing"] := def_of X G c 13 13 rfl rfl (fun _ _ _ _ _ _ us hl => match us, hl with | [_], _ => rfl)
theorem d_is_fraction (X : K.In h) (G : h.Ns mainGlobals mg) (c : SaysK K) : Def K mg "is_fraction" "is_fraction" sIsFraction ["thing"] := def_of X G c 14 14 rfl rfl (fun _ _ _ _ _ _ us hl => match us, hl with | [_], _ => rfl)
theorem d_is_number_below (X : K.In h) (G : h.Ns mainGlobals mg) (c : SaysK K) : Def K mg "is_number_below" "is_number_below" sIsNumberBelow ["thing", "many"] := def_of X G c 15 15 rfl rfl (fun _ _ _ _ _ _ us hl => match us, hl with | [_, _], _ => rfl)
theorem d_kind_of (X : K.In h) (G : h.Ns mainGlobals mg) (c : SaysK K) : Def K mg "kind_of" "kind_of" sKindOf ["s", "family", "thing"] := def_of X G c 16 16 rfl rfl (fun _ _ _ _ _ _ us hl => match us, hl with | [_, _, _], _ => rfl)
theorem d_with_side (X : K.In h) (G : h.Ns mainGlobals mg) (c : SaysK K) : Def K mg "with_side" "with_side" sWithSide ["cell", "side", "told"] := def_of X G c 17 17 rfl rfl (fun _ _ _ _ _ _ us hl => match us, hl with | [_, _, _], _ => rfl)
theorem d_cut_cells (X : K.In h) (G : h.Ns mainGlobals mg) (c : SaysK K) : Def K mg "cut_cells" "cut_cells" sCutCells ["cell", "side", "which", "at"] := def_of X G c 18 18 rfl rfl (fun _ _ _ _ _ _ us hl => match us, hl with | [_, _, _, _], _ => rfl)
theorem d_way_cells (X : K.In h) (G : h.Ns mainGlobals mg) (c : SaysK K) : Def K mg "way_cells" "way_cells" sWayCells ["cell", "side"] := def_of X G c 19 19 rfl rfl (fun _ _ _ _ _ _ us hl => match us, hl with | [_, _], _ => rfl)
theorem d_cells_behind (X : K.In h) (G : h.Ns mainGlobals mg) (c : SaysK K) : Def K mg "cells_behind" "cells_behind" sCellsBehind ["cell", "thing"] := def_of X G c 20 20 rfl rfl (fun _ _ _ _ _ _ us hl => match us, hl with | [_, _], _ => rfl)
theorem d_leaf_word (X : K.In h) (G : h.Ns mainGlobals mg) (c : SaysK K) : Def K mg "leaf_word" "leaf_word" sLeafWord ["points", "number", "cell"] := def_of X G c 21 21 rfl rfl (fun _ _ _ _ _ _ us hl => match us, hl with | [_, _, _], _ => rfl)
theorem d_sides_of (X : K.In h) (G : h.Ns mainGlobals mg) (c : SaysK K) : Def K mg "sides_of" "sides_of" sSidesOf ["points"] := def_of X G c 22 22 rfl rfl (fun _ _ _ _ _ _ us hl => match us, hl with | [_], _ => rfl)
theorem d_first_cell (X : K.In h) (G : h.Ns mainGlobals mg) (c : SaysK K) : Def K mg "first_cell" "first_cell" sFirstCell ["s", "family"] := def_of X G c 23 23 rfl rfl (fun _ _ _ _ _ _ us hl => match us, hl with | [_, _], _ => rfl)
theorem d_fault_at (X : K.In h) (G : h.Ns mainGlobals mg) (c : SaysK K) : Def K mg "fault_at" "fault_at" sFaultAt ["points", "family", "number", "cell", "path", "thing"] := def_of X G c 24 24 rfl rfl (fun _ _ _ _ _ _ us hl => match us, hl with | [_, _, _, _, _, _], _ => rfl)
theorem d_look_over (X : K.In h) (G : h.Ns mainGlobals mg) (c : SaysK K) : Def K mg "look_over" "look_over" sLookOver ["points", "family", "number", "cell", "path", "thing"] := def_of X G c 25 25 rfl rfl (fun _ _ _ _ _ _ us hl => match us, hl with | [_, _, _, _, _, _], _ => rfl)
theorem d_lets_even (X : K.In h) (G : h.Ns mainGlobals mg) (c : SaysK K) : Def K mg "lets_even" "lets_even" sLetsEven ["points", "family", "number", "thing"] := def_of X G c 26 26 rfl rfl (fun _ _ _ _ _ _ us hl => match us, hl with | [_, _, _, _], _ => rfl)
theorem d_side_size (X : K.In h) (G : h.Ns mainGlobals mg) (c : SaysK K) : Def K mg "side_size" "side_size" sSideSize ["side"] := def_of X G c 27 27 rfl rfl (fun _ _ _ _ _ _ us hl => match us, hl with | [_], _ => rfl)
theorem d_size_of (X : K.In h) (G : h.Ns mainGlobals mg) (c : SaysK K) : Def K mg "size_of" "size_of" sSizeOf ["box"] := def_of X G c 28 28 rfl rfl (fun _ _ _ _ _ _ us hl => match us, hl with | [_], _ => rfl)
theorem d_is_behind (X : K.In h) (G : h.Ns mainGlobals mg) (c : SaysK K) : Def K mg "is_behind" "is_behind" sIsBehind ["x", "edge", "way"] := def_of X G c 29 29 rfl rfl (fun _ _ _ _ _ _ us hl => match us, hl with | [_, _, _], _ => rfl)
theorem d_is_ahead (X : K.In h) (G : h.Ns mainGlobals mg) (c : SaysK K) : Def K mg "is_ahead" "is_ahead" sIsAhead ["x", "edge", "way"] := def_of X G c 30 30 rfl rfl (fun _ _ _ _ _ _ us hl => match us, hl with | [_, _, _], _ => rfl)
theorem d_lies (X : K.In h) (G : h.Ns mainGlobals mg) (c : SaysK K) : Def K mg "lies" "lies" sLies ["x", "side", "way"] := def_of X G c 31 31 rfl rfl (fun _ _ _ _ _ _ us hl => match us, hl with | [_, _, _], _ => rfl)
theorem d_lies_in (X : K.In h) (G : h.Ns mainGlobals mg) (c : SaysK K) : Def K mg "lies_in" "lies_in" sLiesIn ["point", "box", "way"] := def_of X G c 32 32 rfl rfl (fun _ _ _ _ _ _ us hl => match us, hl with | [_, _, _], _ => rfl)
theorem d_inside (X : K.In h) (G : h.Ns mainGlobals mg) (c : SaysK K) : Def K mg "inside" "inside" sInside ["points", "box", "way"] := def_of X G c 33 33 rfl rfl (fun _ _ _ _ _ _ us hl => match us, hl with | [_, _, _], _ => rfl)
theorem d_over_of (X : K.In h) (G : h.Ns mainGlobals mg) (c : SaysK K) : Def K mg "over_of" "over_of" sOverOf ["points", "box"] := def_of X G c 34 34 rfl rfl (fun _ _ _ _ _ _ us hl => match us, hl with | [_, _], _ => rfl)
theorem d_lack_of (X : K.In h) (G : h.Ns mainGlobals mg) (c : SaysK K) : Def K mg "lack_of" "lack_of" sLackOf ["points", "box"] := def_of X G c 35 35 rfl rfl (fun _ _ _ _ _ _ us hl => match us, hl with | [_, _], _ => rfl)
theorem d_misses_of (X : K.In h) (G : h.Ns mainGlobals mg) (c : SaysK K) : Def K mg "misses_of" "misses_of" sMissesOf ["points", "box"] := def_of X G c 36 36 rfl rfl (fun _ _ _ _ _ _ us hl => match us, hl with | [_, _], _ => rfl)
theorem d_in_size (X : K.In h) (G : h.Ns mainGlobals mg) (c : SaysK K) : Def K mg "in_size" "in_size" sInSize ["some"] := def_of X G c 37 37 rfl rfl (fun _ _ _ _ _ _ us hl => match us, hl with | [_], _ => rfl)
theorem d_numbers_at (X : K.In h) (G : h.Ns mainGlobals mg) (c : SaysK K) : Def K mg "numbers_at" "numbers_at" sNumbersAt ["points", "side"] := def_of X G c 38 38 rfl rfl (fun _ _ _ _ _ _ us hl => match us, hl with | [_, _], _ => rfl)
theorem d_many_at_side (X : K.In h) (G : h.Ns mainGlobals mg) (c : SaysK K) : Def K mg "many_at_side" "many_at_side" sManyAtSide ["u", "family"] := def_of X G c 39 39 rfl rfl (fun _ _ _ _ _ _ us hl => match us, hl with | [_, _], _ => rfl)
theorem d_many_looks (X : K.In h) (G : h.Ns mainGlobals mg) (c : SaysK K) : Def K mg "many_looks" "many_looks" sManyLooks ["points", "family"] := def_of X G c 40 40 rfl rfl (fun _ _ _ _ _ _ us hl => match us, hl with | [_, _], _ => rfl)
theorem d_side_looks (X : K.In h) (G : h.Ns mainGlobals mg) (c : SaysK K) : Def K mg "side_looks" "side_looks" sSideLooks ["numbers", "family"] := def_of X G c 41 41 rfl rfl (fun _ _ _ _ _ _ us hl => match us, hl with | [_, _], _ => rfl)
theorem d_looks (X : K.In h) (G : h.Ns mainGlobals mg) (c : SaysK K) : Def K mg "looks" "looks" sLooks ["points", "family"] := def_of X G c 42 42 rfl rfl (fun _ _ _ _ _ _ us hl => match us, hl with | [_, _], _ => rfl)
theorem d_worst (X : K.In h) (G : h.Ns mainGlobals mg) (c : SaysK K) : Def K mg "worst" "worst" sWorst ["points", "family"] := def_of X G c 43 43 rfl rfl (fun _ _ _ _ _ _ us hl => match us, hl with | [_, _], _ => rfl)
theorem d_unevenness (X : K.In h) (G : h.Ns mainGlobals mg) (c : SaysK K) : Def K mg "unevenness" "unevenness" sUnevenness ["points", "family"] := def_of X G c 44 44 rfl rfl (fun _ _ _ _ _ _ us hl => match us, hl with | [_, _], _ => rfl)
theorem d_even_exchanged (X : K.In h) (G : h.Ns mainGlobals mg) (c : SaysK K) : Def K mg "even_exchanged" "even_exchanged" sEvenExchanged ["paper", "order"] := def_of X G c 45 45 rfl rfl (fun _ _ _ _ _ _ us hl => match us, hl with | [_, _], _ => rfl)
theorem d_half_of (X : K.In h) (G : h.Ns mainGlobals mg) (c : SaysK K) : Def K mg "half_of" "half_of" sHalfOf ["paper", "number"] := def_of X G c 46 46 rfl rfl (fun _ _ _ _ _ _ us hl => match us, hl with | [_, _], _ => rfl)
theorem d_whole_side (X : K.In h) (G : h.Ns mainGlobals mg) (c : SaysK K) : Def K mg "whole_side" "whole_side" sWholeSide ["family", "paper"] := def_of X G c 47 47 rfl rfl (fun _ _ _ _ _ _ us hl => match us, hl with | [_, _], _ => rfl)
theorem d_even_shadow (X : K.In h) (G : h.Ns mainGlobals mg) (c : SaysK K) : Def K mg "even_shadow" "even_shadow" sEvenShadow ["family", "paper", "side"] := def_of X G c 48 48 rfl rfl (fun _ _ _ _ _ _ us hl => match us, hl with | [_, _, _], _ => rfl)
theorem d_even_inner (X : K.In h) (G : h.Ns mainGlobals mg) (c : SaysK K) : Def K mg "even_inner" "even_inner" sEvenInner ["paper"] := def_of X G c 49 49 rfl rfl (fun _ _ _ _ _ _ us hl => match us, hl with | [_], _ => rfl)
theorem d_even_corner (X : K.In h) (G : h.Ns mainGlobals mg) (c : SaysK K) : Def K mg "even_corner" "even_corner" sEvenCorner ["paper"] := def_of X G c 50 50 rfl rfl (fun _ _ _ _ _ _ us hl => match us, hl with | [_], _ => rfl)
theorem d_only_part (X : K.In h) (G : h.Ns mainGlobals mg) (c : SaysK K) : Def K mg "only_part" "only_part" sOnlyPart ["cell", "paper"] := def_of X G c 51 51 rfl rfl (fun _ _ _ _ _ _ us hl => match us, hl with | [_, _], _ => rfl)
theorem d_grafted (X : K.In h) (G : h.Ns mainGlobals mg) (c : SaysK K) : Def K mg "grafted" "grafted" sGrafted ["cell", "one", "other"] := def_of X G c 52 52 rfl rfl (fun _ _ _ _ _ _ us hl => match us, hl with | [_, _, _], _ => rfl)
theorem d_even_joined (X : K.In h) (G : h.Ns mainGlobals mg) (c : SaysK K) : Def K mg "even_joined" "even_joined" sEvenJoined ["family", "sides", "one", "other"] := def_of X G c 53 53 rfl rfl (fun _ _ _ _ _ _ us hl => match us, hl with | [_, _, _, _], _ => rfl)
theorem d__law_frac (X : K.In h) (G : h.Ns mainGlobals mg) (c : SaysK K) : Def K mg "_law_frac" "_law_frac" sLawFrac ["_law_top", "_law_bottom"] := def_of X G c 54 54 rfl rfl (fun _ _ _ _ _ _ us hl => match us, hl with | [_, _], _ => rfl)
theorem d__law_cmp (X : K.In h) (G : h.Ns mainGlobals mg) (c : SaysK K) : Def K mg "_law_cmp" "_law_cmp" sLawCmp ["_law_one", "_law_other"] := def_of X G c 55 55 rfl rfl (fun _ _ _ _ _ _ us hl => match us, hl with | [_, _], _ => rfl)
theorem d__law_side_size (X : K.In h) (G : h.Ns mainGlobals mg) (c : SaysK K) : Def K mg "_law_side_size" "_law_side_size" sLawSideSize ["_law_side"] := def_of X G c 56 56 rfl rfl (fun _ _ _ _ _ _ us hl => match us, hl with | [_], _ => rfl)
theorem d__law_side_told (X : K.In h) (G : h.Ns mainGlobals mg) (c : SaysK K) : Def K mg "_law_side_told" "_law_side_told" sLawSideTold ["_law_x", "_law_word", "_law_ranges"] := def_of X G c 57 57 rfl rfl (fun _ _ _ _ _ _ us hl => match us, hl with | [_, _, _], _ => rfl)
theorem d__law_ends (X : K.In h) (G : h.Ns mainGlobals mg) (c : SaysK K) : Def K mg "_law_ends" "_law_ends" sLawEnds ["_law_word", "_law_ranges"] := def_of X G c 58 58 rfl rfl (fun _ _ _ _ _ _ us hl => match us, hl with | [_, _], _ => rfl)
theorem d__law_product (X : K.In h) (G : h.Ns mainGlobals mg) (c : SaysK K) : Def K mg "_law_product" "_law_product" sLawProduct ["_law_one", "_law_other"] := def_of X G c 59 59 rfl rfl (fun _ _ _ _ _ _ us hl => match us, hl with | [_, _], _ => rfl)
theorem d__law_cell_told (X : K.In h) (G : h.Ns mainGlobals mg) (c : SaysK K) : Def K mg "_law_cell_told" "_law_cell_told" sLawCellTold ["_law_pts", "_law_cell"] := def_of X G c 60 60 rfl rfl (fun _ _ _ _ _ _ us hl => match us, hl with | [_, _], _ => rfl)
theorem d__law_first (X : K.In h) (G : h.Ns mainGlobals mg) (c : SaysK K) : Def K mg "_law_first" "_law_first" sLawFirst ["_law_s", "_law_family"] := def_of X G c 61 61 rfl rfl (fun _ _ _ _ _ _ us hl => match us, hl with | [_, _], _ => rfl)
theorem d__law_behind (X : K.In h) (G : h.Ns mainGlobals mg) (c : SaysK K) : Def K mg "_law_behind" "_law_behind" sLawBehind ["_law_cell", "_law_node"] := def_of X G c 62 62 rfl rfl (fun _ _ _ _ _ _ us hl => match us, hl with | [_, _], _ => rfl)
theorem d__law_needs (X : K.In h) (G : h.Ns mainGlobals mg) (c : SaysK K) : Def K mg "_law_needs" "_law_needs" sLawNeeds ["_law_pts", "_law_cell"] := def_of X G c 63 63 rfl rfl (fun _ _ _ _ _ _ us hl => match us, hl with | [_, _], _ => rfl)
theorem d__law_need (X : K.In h) (G : h.Ns mainGlobals mg) (c : SaysK K) : Def K mg "_law_need" "_law_need" sLawNeed ["_law_pts", "_law_cell", "_law_node"] := def_of X G c 64 64 rfl rfl (fun _ _ _ _ _ _ us hl => match us, hl with | [_, _, _], _ => rfl)
theorem d__law_holds (X : K.In h) (G : h.Ns mainGlobals mg) (c : SaysK K) : Def K mg "_law_holds" "_law_holds" sLawHolds ["_law_pts", "_law_family", "_law_number", "_law_paper"] := def_of X G c 65 65 rfl rfl (fun _ _ _ _ _ _ us hl => match us, hl with | [_, _, _, _], _ => rfl)
theorem d__law_full (X : K.In h) (G : h.Ns mainGlobals mg) (c : SaysK K) : Def K mg "_law_full" "_law_full" sLawFull ["_law_ends_here", "_law_words", "_law_cuts"] := def_of X G c 66 66 rfl rfl (fun _ _ _ _ _ _ us hl => match us, hl with | [_, _, _], _ => rfl)
theorem d__law_draw (X : K.In h) (G : h.Ns mainGlobals mg) (c : SaysK K) : Def K mg "_law_draw" "_law_draw" sLawDraw ["_law_feed_here", "_law_many"] := def_of X G c 67 67 rfl rfl (fun _ _ _ _ _ _ us hl => match us, hl with | [_, _], _ => rfl)
theorem d__law_order (X : K.In h) (G : h.Ns mainGlobals mg) (c : SaysK K) : Def K mg "_law_order" "_law_order" sLawOrder ["_law_feed_here", "_law_s"] := def_of X G c 68 68 rfl rfl (fun _ _ _ _ _ _ us hl => match us, hl with | [_, _], _ => rfl)
theorem d__law_small (X : K.In h) (G : h.Ns mainGlobals mg) (c : SaysK K) : Def K mg "_law_small" "_law_small" sLawSmall ["_law_feed_here", "_law_family", "_law_s"] := def_of X G c 69 69 rfl rfl (fun _ _ _ _ _ _ us hl => match us, hl with | [_, _, _], _ => rfl)
theorem d__law_world (X : K.In h) (G : h.Ns mainGlobals mg) (c : SaysK K) : Def K mg "_law_world" "_law_world" sLawWorld ["_law_feed_here", "_law_s"] := def_of X G c 70 70 rfl rfl (fun _ _ _ _ _ _ us hl => match us, hl with | [_, _], _ => rfl)
theorem d__law_shadows (X : K.In h) (G : h.Ns mainGlobals mg) (c : SaysK K) : Def K mg "_law_shadows" "_law_shadows" sLawShadows ["_law_feed_here", "_law_papers", "_law_number"] := def_of X G c 71 71 rfl rfl (fun _ _ _ _ _ _ us hl => match us, hl with | [_, _, _], _ => rfl)
theorem d__law_feed (X : K.In h) (G : h.Ns mainGlobals mg) (c : SaysK K) : Def K mg "_law_feed" "_law_feed" sLawFeed ["_law_script"] := def_of X G c 72 72 rfl rfl (fun _ _ _ _ _ _ us hl => match us, hl with | [_], _ => rfl)
theorem d_blt (X : K.In h) (G : h.Ns mainGlobals mg) (c : SaysK K) : Blt mg := ⟨He.free_ok X G (c.1.fact 74 (f := .free "isinstance") rfl), He.free_ok X G (c.1.fact 75 (f := .free "int") rfl), He.free_ok X G (c.1.fact 76 (f := .free "bool") rfl), He.free_ok X G (c.1.fact 77 (f := .free "tuple") rfl), He.free_ok X G (c.1.fact 78 (f := .free "list") rfl), He.free_ok X G (c.1.fact 79 (f := .free "len") rfl), He.free_ok X G (c.1.fact 80 (f := .free "abs") rfl), He.free_ok X G (c.1.fact 81 (f := .free "all") rfl), He.free_ok X G (c.1.fact 82 (f := .free "any") rfl), He.free_ok X G (c.1.fact 83 (f := .free "zip") rfl), He.free_ok X G (c.1.fact 84 (f := .free "range") rfl), He.free_ok X G (c.1.fact 85 (f := .free "min") rfl), He.free_ok X G (c.1.fact 86 (f := .free "max") rfl)⟩
theorem d_k_NOUGHT_fractions (X : K.In h) (G : h.Ns mainGlobals mg) (c : SaysK K) : Con K mg "NOUGHT_fractions" (eQ 0) := con_of X G c 0 rfl rfl
theorem d_k_ONE_fractions (X : K.In h) (G : h.Ns mainGlobals mg) (c : SaysK K) : Con K mg "ONE_fractions" (eQ 1) := con_of X G c 1 rfl rfl
theorem d_k_NOUGHT_cells (X : K.In h) (G : h.Ns mainGlobals mg) (c : SaysK K) : Con K mg "NOUGHT_cells" (eQ 0) := con_of X G c 2 rfl rfl
theorem d_k_ONE_cells (X : K.In h) (G : h.Ns mainGlobals mg) (c : SaysK K) : Con K mg "ONE_cells" (eQ 1) := con_of X G c 3 rfl rfl
theorem d_k_WHOLE_RANGE (X : K.In h) (G : h.Ns mainGlobals mg) (c : SaysK K) : Con K mg "WHOLE_RANGE" (eR wh) := con_of X G c 4 rfl rfl
theorem d_k_MOST_PATH (X : K.In h) (G : h.Ns mainGlobals mg) (c : SaysK K) : Con K mg "MOST_PATH" (.int 36) := con_of X G c 5 rfl rfl
theorem d_k_ONE_looks (X : K.In h) (G : h.Ns mainGlobals mg) (c : SaysK K) : Con K mg "ONE_looks" (eQ 1) := con_of X G c 6 rfl rfl
theorem d_k_BELOW (X : K.In h) (G : h.Ns mainGlobals mg) (c : SaysK K) : Con K mg "BELOW" (eQ (-1)) := con_of X G c 7 rfl rfl
theorem d_k_MOST_LOOKS (X : K.In h) (G : h.Ns mainGlobals mg) (c : SaysK K) : Con K mg "MOST_LOOKS" (.int 3000) := con_of X G c 8 rfl rfl
theorem d_k_NOUGHT_evenpapers (X : K.In h) (G : h.Ns mainGlobals mg) (c : SaysK K) : Con K mg "NOUGHT_evenpapers" (eQ 0) := con_of X G c 9 rfl rfl
theorem d_k_ONE_evenpapers (X : K.In h) (G : h.Ns mainGlobals mg) (c : SaysK K) : Con K mg "ONE_evenpapers" (eQ 1) := con_of X G c 10 rfl rfl
theorem law_fact {f : Addr} (X : K.In h) (G : h.Ns mainGlobals mg) (hfa : mg ("law" : Str) = some (.ref f)) (c : SaysK K) :
    ∃ fd : FuncData, (∀ (s : Shared) (v : Value), BindsTo s fd ⟨[v], []⟩ [("_law_script", v)]) ∧ ∀ base : Heap, K.In base → base.Ns mainGlobals mg → FnOk P w K mg base CX0 49 f fd ["_law_script"] (spLaw K) := by
  obtain ⟨fd, F0⟩ := c.1.def_ 73 (d := ⟨("law", none), "law", "law", defArgs sLaw, defBody sLaw, defScope sLaw, [], []⟩) rfl
  have e := hfa.symm.trans (He.glo_ok X G (c.1.fact 73 (f := .glo "law") rfl))
  cases e
  have b := FunD.bindsA (ps := ["_law_script"]) F0 fun _ _ _ _ _ _ us hl => match us, hl with | [_], _ => rfl
  have F : L2.Fun K "law" "law" sLaw (He.ga K "law") fd := fun_of (x := "law") (st := sLaw) (f := He.ga K "law") F0
  refine ⟨fd, fun s v => b s [v] rfl, fun base _ _ => ?_⟩
  have B := d_blt X G c
  have k_NOUGHT_fractions := d_k_NOUGHT_fractions X G c
  have k_ONE_fractions := d_k_ONE_fractions X G c
  have k_NOUGHT_cells := d_k_NOUGHT_cells X G c
  have k_ONE_cells := d_k_ONE_cells X G c
  have k_WHOLE_RANGE := d_k_WHOLE_RANGE X G c
  have k_MOST_PATH := d_k_MOST_PATH X G c
  have k_ONE_looks := d_k_ONE_looks X G c
  have k_BELOW := d_k_BELOW X G c
  have k_MOST_LOOKS := d_k_MOST_LOOKS X G c
  have k_NOUGHT_evenpapers := d_k_NOUGHT_evenpapers X G c
  have k_ONE_evenpapers := d_k_ONE_evenpapers X G c
  have c_shared := ok_shared (P := P) (w := w) (base := base) (d_shared X G c)
  have c_fraction := ok_fraction (P := P) (w := w) (base := base) (d_fraction X G c) B c_shared
  have c_plus := ok_plus (P := P) (w := w) (base := base) (d_plus X G c) c_fraction
  have c_less := ok_less (P := P) (w := w) (base := base) (d_less X G c) c_fraction
  have c_times := ok_times (P := P) (w := w) (base := base) (d_times X G c) c_fraction
  have c_is_below := ok_is_below (P := P) (w := w) (base := base) (d_is_below X G c)
  have c_from_nought_cells := ok_from_nought_cells (P := P) (w := w) (base := base) (d_from_nought_cells X G c) k_NOUGHT_cells c_is_below
  have c_from_nought_boxes := ok_from_nought_boxes (P := P) (w := w) (base := base) (d_from_nought_boxes X G c) k_NOUGHT_fractions c_is_below
  have c_is_surely := ok_is_surely (P := P) (w := w) (base := base) (d_is_surely X G c) c_is_below
  have c_is_perhaps := ok_is_perhaps (P := P) (w := w) (base := base) (d_is_perhaps X G c) c_is_below
  have c_side_between := ok_side_between (P := P) (w := w) (base := base) (d_side_between X G c) k_ONE_cells c_plus c_from_nought_cells c_less c_is_below
  have c_side_sizes := ok_side_sizes (P := P) (w := w) (base := base) (d_side_sizes X G c) c_side_between c_from_nought_cells
  have c_cell_told := ok_cell_told (P := P) (w := w) (base := base) (d_cell_told X G c) B k_ONE_cells c_side_sizes c_times c_is_surely c_is_perhaps
  have c_is_whole := ok_is_whole (P := P) (w := w) (base := base) (d_is_whole X G c) B
  have c_is_fraction := ok_is_fraction (P := P) (w := w) (base := base) (d_is_fraction X G c) B c_shared c_is_whole
  have c_is_number_below := ok_is_number_below (P := P) (w := w) (base := base) (d_is_number_below X G c) B
  have c_kind_of := ok_kind_of (P := P) (w := w) (base := base) (d_kind_of X G c) B c_is_number_below c_is_fraction
  have c_with_side := ok_with_side (P := P) (w := w) (base := base) (d_with_side X G c)
  have c_cut_cells := ok_cut_cells (P := P) (w := w) (base := base) (d_cut_cells X G c) c_with_side
  have c_way_cells := ok_way_cells (P := P) (w := w) (base := base) (d_way_cells X G c) c_with_side
  have c_cells_behind := ok_cells_behind (P := P) (w := w) (base := base) (d_cells_behind X G c) c_cut_cells c_way_cells
  have c_leaf_word := ok_leaf_word (P := P) (w := w) (base := base) (d_leaf_word X G c) B c_cell_told c_is_below c_less c_fraction
  have c_sides_of := ok_sides_of (P := P) (w := w) (base := base) (d_sides_of X G c) B
  have c_first_cell := ok_first_cell (P := P) (w := w) (base := base) (d_first_cell X G c) k_WHOLE_RANGE
  have c_fault_at := ok_fault_at (P := P) (w := w) (base := base) (d_fault_at X G c) B k_MOST_PATH c_kind_of c_leaf_word c_is_below
  have c_look_over := ok_look_over (P := P) (w := w) (base := base) (d_look_over X G c) B c_fault_at c_cells_behind 37
  have c_lets_even := ok_lets_even (P := P) (w := w) (base := base) (d_lets_even X G c) c_look_over c_first_cell c_sides_of
  have c_side_size := ok_side_size (P := P) (w := w) (base := base) (d_side_size X G c) k_ONE_fractions k_NOUGHT_fractions c_less c_from_nought_boxes c_is_below c_plus
  have c_size_of := ok_size_of (P := P) (w := w) (base := base) (d_size_of X G c) k_ONE_fractions c_times c_side_size
  have c_is_behind := ok_is_behind (P := P) (w := w) (base := base) (d_is_behind X G c) c_is_below
  have c_is_ahead := ok_is_ahead (P := P) (w := w) (base := base) (d_is_ahead X G c) c_is_below
  have c_lies := ok_lies (P := P) (w := w) (base := base) (d_lies X G c) c_is_ahead c_is_behind
  have c_lies_in := ok_lies_in (P := P) (w := w) (base := base) (d_lies_in X G c) B c_lies
  have c_inside := ok_inside (P := P) (w := w) (base := base) (d_inside X G c) B c_lies_in
  have c_over_of := ok_over_of (P := P) (w := w) (base := base) (d_over_of X G c) B c_less c_fraction c_size_of c_inside
  have c_lack_of := ok_lack_of (P := P) (w := w) (base := base) (d_lack_of X G c) B c_less c_size_of c_fraction c_inside
  have c_misses_of := ok_misses_of (P := P) (w := w) (base := base) (d_misses_of X G c) c_over_of c_lack_of
  have c_in_size := ok_in_size (P := P) (w := w) (base := base) (d_in_size X G c) B c_is_below
  have c_numbers_at := ok_numbers_at (P := P) (w := w) (base := base) (d_numbers_at X G c) c_in_size
  have c_many_at_side := ok_many_at_side (P := P) (w := w) (base := base) (d_many_at_side X G c)
  have c_many_looks := ok_many_looks (P := P) (w := w) (base := base) (d_many_looks X G c) B c_sides_of c_many_at_side c_numbers_at
  have c_side_looks := ok_side_looks (P := P) (w := w) (base := base) (d_side_looks X G c) k_ONE_looks k_BELOW c_is_below
  have c_looks := ok_looks (P := P) (w := w) (base := base) (d_looks X G c) B k_MOST_LOOKS c_many_looks c_sides_of c_side_looks c_numbers_at
  have c_worst := ok_worst (P := P) (w := w) (base := base) (d_worst X G c) c_looks c_misses_of c_is_below
  have c_unevenness := ok_unevenness (P := P) (w := w) (base := base) (d_unevenness X G c) c_worst
  have c_even_exchanged := ok_even_exchanged (P := P) (w := w) (base := base) (d_even_exchanged X G c) 20
  have c_half_of := ok_half_of (P := P) (w := w) (base := base) (d_half_of X G c) c_is_below
  have c_whole_side := ok_whole_side (P := P) (w := w) (base := base) (d_whole_side X G c) k_NOUGHT_evenpapers k_ONE_evenpapers c_half_of
  have c_even_shadow := ok_even_shadow (P := P) (w := w) (base := base) (d_even_shadow X G c) B c_whole_side 20
  have c_even_inner := ok_even_inner (P := P) (w := w) (base := base) (d_even_inner X G c) 20
  have c_even_corner := ok_even_corner (P := P) (w := w) (base := base) (d_even_corner X G c) k_NOUGHT_evenpapers c_half_of 20
  have c_only_part := ok_only_part (P := P) (w := w) (base := base) (d_only_part X G c) B c_is_below
  have c_grafted := ok_grafted (P := P) (w := w) (base := base) (d_grafted X G c) B c_only_part c_cells_behind 24
  have c_even_joined := ok_even_joined (P := P) (w := w) (base := base) (d_even_joined X G c) c_grafted c_first_cell
  have c__law_frac := ok__law_frac (P := P) (w := w) (base := base) (d__law_frac X G c) B
  have c__law_cmp := ok__law_cmp (P := P) (w := w) (base := base) (d__law_cmp X G c) B
  have c__law_side_size := ok__law_side_size (P := P) (w := w) (base := base) (d__law_side_size X G c) B c__law_frac
  have c__law_side_told := ok__law_side_told (P := P) (w := w) (base := base) (d__law_side_told X G c) B c__law_cmp
  have c__law_ends := ok__law_ends (P := P) (w := w) (base := base) (d__law_ends X G c)
  have c__law_product := ok__law_product (P := P) (w := w) (base := base) (d__law_product X G c) c__law_frac
  have c__law_cell_told := ok__law_cell_told (P := P) (w := w) (base := base) (d__law_cell_told X G c) B c__law_ends c__law_product c__law_side_told c__law_side_size
  have c__law_first := ok__law_first (P := P) (w := w) (base := base) (d__law_first X G c) B
  have c__law_behind := ok__law_behind (P := P) (w := w) (base := base) (d__law_behind X G c) B
  have c__law_needs := ok__law_needs (P := P) (w := w) (base := base) (d__law_needs X G c) B c__law_cell_told c__law_frac
  have c__law_need := ok__law_need (P := P) (w := w) (base := base) (d__law_need X G c) B c__law_needs c__law_behind c__law_cmp 10
  have c__law_holds := ok__law_holds (P := P) (w := w) (base := base) (d__law_holds X G c) B c_lets_even c__law_cmp c_unevenness
  have c__law_full := ok__law_full (P := P) (w := w) (base := base) (d__law_full X G c) B 10
  have c__law_draw := ok__law_draw (P := P) (w := w) (base := base) (d__law_draw X G c) B
  have c__law_order := ok__law_order (P := P) (w := w) (base := base) (d__law_order X G c) B c__law_draw
  have c__law_small := ok__law_small (P := P) (w := w) (base := base) (d__law_small X G c) B c__law_draw c__law_frac
  have c__law_world := ok__law_world (P := P) (w := w) (base := base) (d__law_world X G c) B c__law_draw c__law_frac
  have c__law_shadows := ok__law_shadows (P := P) (w := w) (base := base) (d__law_shadows X G c) B c__law_draw c__law_holds c_even_shadow
  have c_feed := ok_feed (P := P) (w := w) (base := base) (d__law_feed X G c) B
  exact ok_law (P := P) (w := w) (base := base) F B c__law_world c__law_full c__law_small c__law_first c__law_frac c_even_joined c_even_corner c__law_draw c__law_order c__law_need c_even_inner c_even_exchanged c__law_shadows c__law_holds c_feed
end
end EP
open PySem PySem.W PySem.Calls PyProof.Rows
theorem PySem.Challenge.cw_evenpoints_k35_whole_papers_carried_on_holds : PySem.Challenge.rw_evenpoints_k35_whole_papers_carried_on.Holds := by
  w_on; o_law
  refine HandSHeadRun.head_any (r := OpenLaw.row PySem.Challenge.rw_evenpoints_k35_whole_papers_carried_on) (q := view (OpenLaw.row PySem.Challenge.rw_evenpoints_k35_whole_papers_carried_on).prog [99]) (H := HX.hk) (ob := HX.ob) (M := 6000) (loose := HX.loose) (d := HandSHeadRun.topDef (OpenLaw.row PySem.Challenge.rw_evenpoints_k35_whole_papers_carried_on).prog 99) (kwd := []) HX.ob_eq
    (by kernel_rfl) (fun s => by kernel_rfl) HX.run (by kernel_rfl) (by kernel_rfl) (by kernel_rfl) (by rfl) (by first | assumption | decide +kernel) (by decide +kernel) ⟨rfl, rfl, rfl, rfl, rfl, by decide +kernel⟩ ?hw ?hc
  case hw => w_witness2
  case hc =>
    refine L2.walk_ofE (l := PySem.Challenge.rw_evenpoints_k35_whole_papers_carried_on) (n := 63) (k := 49) (x := "_law_script") (CX := L2.CX0) rfl (by decide) (by kernel_rfl) ⟨rfl, by decide, by decide⟩ ?F (fun _ _ _ _ z => z)
    intro w mg fa h Y G hmg0
    obtain ⟨K, KX, c⟩ := Y
    have hmg : mg ("law" : PySem.Str) = some (.ref fa) := by
      have e : (HandSHeadRun.topDef (OpenLaw.row PySem.Challenge.rw_evenpoints_k35_whole_papers_carried_on).prog 99).name = ("law" : PySem.Str) := by kernel_rfl
      rw [← e]
      exact hmg0
    obtain ⟨fd, hb, hF⟩ := EP.law_fact (P := (PySem.Challenge.rw_evenpoints_k35_whole_papers_carried_on).prog) (w := w) KX G hmg c
    exact ⟨K, fd, EP.spLaw K, KX, hb, fun H a ns hl _ hS => ⟨a, ns, rfl, hS, hl, fun _ => rfl⟩, hF⟩
