import PyProof.Rows.All
import Wide.All
import OpenK.AllK
import Wide.FinOn
import HandS.ForMost
import HandS.Wide
import HandS.Lambda
import HandS.ForExc
import HandS.Walk
import HandS.TupAny
import HandS.TupMul
import PyProof.Rows.IntBool
import HandS.Style
import HandS.Deep
import HandS.IsInst
import HandS.RaiseMore
import HandS.Flow
import HandS.Conv
import HandS.ExcCtx
import HandS.Zip
import KE.GoesNew
import HandS.Defaults
import HandS.HotCalls
import HandS.ExcIs
import HandS.HeadWalk
import HandS.HeadHook2
import HandS.Head2
import HandS.HeadHook4
import PyProof.Rows.RegStrFacts
import KE.KStateDown
import Lean
import HandS.Base
import HandS.Call
import HandS.Ends
import HandS.More
import HandS.Words
import HandS.WordsExc
import HandS.Head0
import HandS.Head1
import HandS.HeadEnd
import HandS.HeadHook1
import HandS.HeadHook3
import PySem.Challenge.RW_anypanels_k03_rows_of_facts_blocks_and_w
set_option Elab.async false
set_option linter.all false
set_option maxRecDepth 100000
namespace Pw
open PySem
/-- the defs of the row -/
inductive F where
  | is_whole | has_wardrobe | doors_of | is_lot | is_fact | has_facts | lowest | is_part
  | total | at_most | has_widths | is_shelf | has_shelves | need_wardrobe | is_wardrobe | is_facts
  | is_widths | are_shelves | l_vat | l_under | l_some | l_is_whole | l_truly | l_is_lot
  | l_is_fact | l_are_facts | l_low | l_sum | l_most | l_rails | l_are_widths | l_are_shelves
  | l_line | l_fact_lines | l_lines | l_plain | l_tight | l_last | l_can | l_wardrobe
  | l_lot | l_fact | l_facts | l_shelves | l_names | l_error | l_odd | l_bent
  | l_is_wardrobe | l_judged | law_k01 | need_facts | need_shelves | need_widths | keeps_fact | keeps
  | rooms | fits | can_open | l_keeps | l_rooms | l_cuts | l_opens | l_drawn
  | l_open | law_k02 | row_of | fact_rows | all_rows | cuts_of | all_blocks | all_ways
  | rows_of_block | rows_of_way | rows | need_both | blocks | ways | need_cut | block_rows
  | way_rows | l_way_lines | l_block_lines | l_told_right | l_by_hand | law_k03 | entering | leaving
  | turned | grown | judged | widths_of | need_possible | barring | letting | opened
  | need_asked | how | widths_for | l_word | l_told_right_k04 | l_for | law_k04 | are_weights
  | always_systems | never_systems | paper_of | is_paper | always_paper | never_paper | is_always_paper | is_never_paper
  | l_are_weights | l_systems | l_is_paper | l_told_right_k05 | l_by_hand_k05 | law_k05 | need_standing | is_move
  | are_moves | moved | all_moved | after | l_moved | l_is_move | l_move | l_right
  | law_k06 | contrary | free_word | need_shelf | free | gap_rows | greatest | is_sure
  | sure_gap | hoped_gap | l_contrary | l_free | l_gaps | l_sure | l_hoped | l_gap_right
  | l_by_hand_k07 | law_k07 | all_moves | freeing | l_moves | l_due | law_k08 | all_lots
  | is_part_of | is_possible | quarrels | least_lots | need_fact | beyond | surely | l_always
  | l_lots | l_least | l_sure_k09 | l_told_right_k09 | l_by_hand_k09 | law_k09 | within | parted_by
  | need_two | alike | parting | needless | l_within | l_alike | l_near | l_told_right_k10
  | law_k10 | lot_word | fact_line | wardrobe_line | text_of | facts_text | number_from | lot_from
  | wardrobe_from | fact_from | read_facts | l_words | l_text | law_k11 | l_read_so | l_spoilt
  | l_number | l_lot_of | l_line_of | l_due_k12 | law_k12 | turned_lot | turned_fact | l_tried
  | l_book | l_turned | l_due_k13 | l_shown | l_made_right | l_by_hand_k13 | law_k13 | _wall
  | l_tried_k14 | l_more | l_call | l_move_k14 | l_learn | l_shown_k14 | l_drawn_move | l_turn
  | l_by_hand_k14 | law_k14 | l_look | l_good | l_bad | l_ended | l_attempted | l_undone
  | law_k15 | l_first | l_by_hand_k16 | law_k16 | l_all_widths | l_agrees | l_is_free | law_k17
  | l_single_right | l_twin_right | law_k18
  deriving DecidableEq
/-- the error classes of the row -/
inductive XC where
  | PanelError | InvalidWardrobe | InvalidFacts | InvalidFact | InvalidWidths | InvalidShelves | InvalidStanding | InvalidMoves | InvalidTruth | InvalidNumber | InvalidIndex | Impossible | Unlike | NothingToUndo | TooMany | InvalidText
  deriving DecidableEq
def F.py : F → PySem.Str
  | .is_whole => "is_whole"
  | .has_wardrobe => "has_wardrobe"
  | .doors_of => "doors_of"
  | .is_lot => "is_lot"
  | .is_fact => "is_fact"
  | .has_facts => "has_facts"
  | .lowest => "lowest"
  | .is_part => "is_part"
  | .total => "total"
  | .at_most => "at_most"
  | .has_widths => "has_widths"
  | .is_shelf => "is_shelf"
  | .has_shelves => "has_shelves"
  | .need_wardrobe => "need_wardrobe"
  | .is_wardrobe => "is_wardrobe"
  | .is_facts => "is_facts"
  | .is_widths => "is_widths"
  | .are_shelves => "are_shelves"
  | .l_vat => "_law_vat"
  | .l_under => "_law_under"
  | .l_some => "_law_some"
  | .l_is_whole => "_law_is_whole"
  | .l_truly => "_law_truly"
  | .l_is_lot => "_law_is_lot"
  | .l_is_fact => "_law_is_fact"
  | .l_are_facts => "_law_are_facts"
  | .l_low => "_law_low"
  | .l_sum => "_law_sum"
  | .l_most => "_law_most"
  | .l_rails => "_law_rails"
  | .l_are_widths => "_law_are_widths"
  | .l_are_shelves => "_law_are_shelves"
  | .l_line => "_law_line"
  | .l_fact_lines => "_law_fact_lines"
  | .l_lines => "_law_lines"
  | .l_plain => "_law_plain"
  | .l_tight => "_law_tight"
  | .l_last => "_law_last"
  | .l_can => "_law_can"
  | .l_wardrobe => "_law_wardrobe"
  | .l_lot => "_law_lot"
  | .l_fact => "_law_fact"
  | .l_facts => "_law_facts"
  | .l_shelves => "_law_shelves"
  | .l_names => "_law_names"
  | .l_error => "_law_error"
  | .l_odd => "_law_odd"
  | .l_bent => "_law_bent"
  | .l_is_wardrobe => "_law_is_wardrobe"
  | .l_judged => "_law_judged"
  | .law_k01 => "law"
  | .need_facts => "need_facts"
  | .need_shelves => "need_shelves"
  | .need_widths => "need_widths"
  | .keeps_fact => "keeps_fact"
  | .keeps => "keeps"
  | .rooms => "rooms"
  | .fits => "fits"
  | .can_open => "can_open"
  | .l_keeps => "_law_keeps"
  | .l_rooms => "_law_rooms"
  | .l_cuts => "_law_cuts"
  | .l_opens => "_law_opens"
  | .l_drawn => "_law_drawn"
  | .l_open => "_law_open"
  | .law_k02 => "law"
  | .row_of => "row_of"
  | .fact_rows => "fact_rows"
  | .all_rows => "all_rows"
  | .cuts_of => "cuts_of"
  | .all_blocks => "all_blocks"
  | .all_ways => "all_ways"
  | .rows_of_block => "rows_of_block"
  | .rows_of_way => "rows_of_way"
  | .rows => "rows"
  | .need_both => "need_both"
  | .blocks => "blocks"
  | .ways => "ways"
  | .need_cut => "need_cut"
  | .block_rows => "block_rows"
  | .way_rows => "way_rows"
  | .l_way_lines => "_law_way_lines"
  | .l_block_lines => "_law_block_lines"
  | .l_told_right => "_law_told_right"
  | .l_by_hand => "_law_by_hand"
  | .law_k03 => "law"
  | .entering => "entering"
  | .leaving => "leaving"
  | .turned => "turned"
  | .grown => "grown"
  | .judged => "judged"
  | .widths_of => "widths_of"
  | .need_possible => "need_possible"
  | .barring => "barring"
  | .letting => "letting"
  | .opened => "opened"
  | .need_asked => "need_asked"
  | .how => "how"
  | .widths_for => "widths_for"
  | .l_word => "_law_word"
  | .l_told_right_k04 => "_law_told_right"
  | .l_for => "_law_for"
  | .law_k04 => "law"
  | .are_weights => "are_weights"
  | .always_systems => "always_systems"
  | .never_systems => "never_systems"
  | .paper_of => "paper_of"
  | .is_paper => "is_paper"
  | .always_paper => "always_paper"
  | .never_paper => "never_paper"
  | .is_always_paper => "is_always_paper"
  | .is_never_paper => "is_never_paper"
  | .l_are_weights => "_law_are_weights"
  | .l_systems => "_law_systems"
  | .l_is_paper => "_law_is_paper"
  | .l_told_right_k05 => "_law_told_right"
  | .l_by_hand_k05 => "_law_by_hand"
  | .law_k05 => "law"
  | .need_standing => "need_standing"
  | .is_move => "is_move"
  | .are_moves => "are_moves"
  | .moved => "moved"
  | .all_moved => "all_moved"
  | .after => "after"
  | .l_moved => "_law_moved"
  | .l_is_move => "_law_is_move"
  | .l_move => "_law_move"
  | .l_right => "_law_right"
  | .law_k06 => "law"
  | .contrary => "contrary"
  | .free_word => "free_word"
  | .need_shelf => "need_shelf"
  | .free => "free"
  | .gap_rows => "gap_rows"
  | .greatest => "greatest"
  | .is_sure => "is_sure"
  | .sure_gap => "sure_gap"
  | .hoped_gap => "hoped_gap"
  | .l_contrary => "_law_contrary"
  | .l_free => "_law_free"
  | .l_gaps => "_law_gaps"
  | .l_sure => "_law_sure"
  | .l_hoped => "_law_hoped"
  | .l_gap_right => "_law_gap_right"
  | .l_by_hand_k07 => "_law_by_hand"
  | .law_k07 => "law"
  | .all_moves => "all_moves"
  | .freeing => "freeing"
  | .l_moves => "_law_moves"
  | .l_due => "_law_due"
  | .law_k08 => "law"
  | .all_lots => "all_lots"
  | .is_part_of => "is_part_of"
  | .is_possible => "is_possible"
  | .quarrels => "quarrels"
  | .least_lots => "least_lots"
  | .need_fact => "need_fact"
  | .beyond => "beyond"
  | .surely => "surely"
  | .l_always => "_law_always"
  | .l_lots => "_law_lots"
  | .l_least => "_law_least"
  | .l_sure_k09 => "_law_sure"
  | .l_told_right_k09 => "_law_told_right"
  | .l_by_hand_k09 => "_law_by_hand"
  | .law_k09 => "law"
  | .within => "within"
  | .parted_by => "parted_by"
  | .need_two => "need_two"
  | .alike => "alike"
  | .parting => "parting"
  | .needless => "needless"
  | .l_within => "_law_within"
  | .l_alike => "_law_alike"
  | .l_near => "_law_near"
  | .l_told_right_k10 => "_law_told_right"
  | .law_k10 => "law"
  | .lot_word => "lot_word"
  | .fact_line => "fact_line"
  | .wardrobe_line => "wardrobe_line"
  | .text_of => "text_of"
  | .facts_text => "facts_text"
  | .number_from => "number_from"
  | .lot_from => "lot_from"
  | .wardrobe_from => "wardrobe_from"
  | .fact_from => "fact_from"
  | .read_facts => "read_facts"
  | .l_words => "_law_words"
  | .l_text => "_law_text"
  | .law_k11 => "law"
  | .l_read_so => "_law_read_so"
  | .l_spoilt => "_law_spoilt"
  | .l_number => "_law_number"
  | .l_lot_of => "_law_lot_of"
  | .l_line_of => "_law_line_of"
  | .l_due_k12 => "_law_due"
  | .law_k12 => "law"
  | .turned_lot => "turned_lot"
  | .turned_fact => "turned_fact"
  | .l_tried => "_law_tried"
  | .l_book => "_law_book"
  | .l_turned => "_law_turned"
  | .l_due_k13 => "_law_due"
  | .l_shown => "_law_shown"
  | .l_made_right => "_law_made_right"
  | .l_by_hand_k13 => "_law_by_hand"
  | .law_k13 => "law"
  | ._wall => "_wall"
  | .l_tried_k14 => "_law_tried"
  | .l_more => "_law_more"
  | .l_call => "_law_call"
  | .l_move_k14 => "_law_move"
  | .l_learn => "_law_learn"
  | .l_shown_k14 => "_law_shown"
  | .l_drawn_move => "_law_drawn_move"
  | .l_turn => "_law_turn"
  | .l_by_hand_k14 => "_law_by_hand"
  | .law_k14 => "law"
  | .l_look => "_law_look"
  | .l_good => "_law_good"
  | .l_bad => "_law_bad"
  | .l_ended => "_law_ended"
  | .l_attempted => "_law_attempted"
  | .l_undone => "_law_undone"
  | .law_k15 => "law"
  | .l_first => "_law_first"
  | .l_by_hand_k16 => "_law_by_hand"
  | .law_k16 => "law"
  | .l_all_widths => "_law_all_widths"
  | .l_agrees => "_law_agrees"
  | .l_is_free => "_law_is_free"
  | .law_k17 => "law"
  | .l_single_right => "_law_single_right"
  | .l_twin_right => "_law_twin_right"
  | .law_k18 => "law"
def XC.py : XC → PySem.Str
  | .PanelError => "PanelError"
  | .InvalidWardrobe => "InvalidWardrobe"
  | .InvalidFacts => "InvalidFacts"
  | .InvalidFact => "InvalidFact"
  | .InvalidWidths => "InvalidWidths"
  | .InvalidShelves => "InvalidShelves"
  | .InvalidStanding => "InvalidStanding"
  | .InvalidMoves => "InvalidMoves"
  | .InvalidTruth => "InvalidTruth"
  | .InvalidNumber => "InvalidNumber"
  | .InvalidIndex => "InvalidIndex"
  | .Impossible => "Impossible"
  | .Unlike => "Unlike"
  | .NothingToUndo => "NothingToUndo"
  | .TooMany => "TooMany"
  | .InvalidText => "InvalidText"
end Pw
/-! Pw1: plain values, the small store, the plain interpreter of the Python of the rows. -/
namespace Pw
open PySem
/-- plain values: `lst` is a list that nobody changes any more, `ref n` the n-th object of the store, `fn f` a def of the module, `cls c` an error class, `exn c vs` an error with its own attributes' values, `scr` the law's script -/
inductive PV where
  | non | bl (b : Bool) | int (i : Int) | str (x : PySem.Str) | tup (xs : List PV) | lst (xs : List PV) | ref (n : Nat) | fn (f : F) | cls (c : XC) | exn (c : XC) (vs : List PV) | scr (ns : List Int)
/-- objects that change -/
inductive PO where
  | lst (xs : List PV)
  | dct (kvs : List (PV × PV))
abbrev PSt := List PO
abbrev Env := List (Option PV)
inductive R (α : Type) where
  | ok (a : α) (S : PSt)
  | exc (c : XC) (vs : List PV) (S : PSt)
  | err
/-- an equation that simp shall use by its proof -/
theorem eqOf {α : Sort _} {a b : α} (h : a = b) : a = b := h
namespace R
def bind {α β : Type} (r : R α) (f : α → PSt → R β) : R β := match r with
  | .ok a S => f a S
  | .exc c vs S => .exc c vs S
  | .err => .err
section
variable {α β γ : Type}
@[simp] theorem bind_ok (a : α) (S : PSt) (f : α → PSt → R β) : (R.ok a S).bind f = f a S := eqOf rfl
@[simp] theorem bind_exc (c : XC) (vs : List PV) (S : PSt) (f : α → PSt → R β) : (R.exc c vs S : R α).bind f = .exc c vs S := eqOf rfl
@[simp] theorem bind_err (f : α → PSt → R β) : (R.err : R α).bind f = .err := eqOf rfl
theorem bind_assoc (r : R α) (f : α → PSt → R β) (g : β → PSt → R γ) : (r.bind f).bind g = r.bind fun a S => (f a S).bind g := by
  cases r <;> rfl
end
/-- what may be missing -/
def ofO {α : Type} (S : PSt) : Option α → R α
  | some a => .ok a S
  | none => .err
@[simp] theorem ofO_some {α : Type} (S : PSt) (a : α) : ofO S (some a) = .ok a S := eqOf rfl
@[simp] theorem ofO_none {α : Type} (S : PSt) : ofO S (none : Option α) = .err := eqOf rfl
end R
/-! ### the text -/
inductive BOp where | add | sub | mul | fdiv | mod | pow
  deriving DecidableEq
inductive COp where | eq | ne | lt | le | gt | ge | is | isnot | inn | notin
  deriving DecidableEq
inductive Ty where | int | bool | str | tuple | list
  deriving DecidableEq
/-- built-in functions of values -/
inductive Blt where | len | abs | int | str | tuple | min2 | max2 | sum | sorted | bool
  deriving DecidableEq
inductive Mth where | split | join | get | upper | index | count
  deriving DecidableEq
/-- targets -/
inductive Tg where
  | nm (i : Nat)
  | tp (ts : List Tg)
mutual
inductive PX where
  | var (i : Nat)
  | cst (v : PV)
  | fn (f : F)
  | xcls (c : XC)
  | mw
  | tup (es : PXs)
  | fl (l : PXl)
  | nl (l : PXl)
  | bin (op : BOp) (a b : PX)
  | neg (a : PX)
  | not (a : PX)
  | cmp (op : COp) (a b : PX)
  | chain (o1 o2 : COp) (a b c : PX)
  | and (a b : PX)
  | or (a b : PX)
  | ife (c a b : PX)
  | idx (a i : PX)
  | sl (a lo hi : PX)
  | slf (a lo : PX)
  | slt (a hi : PX)
  | rev (a : PX)
  | call (f : F) (es : PXs)
  | callv (e : PX) (es : PXs)
  | blt (b : Blt) (es : PXs)
  | isi (a : PX) (ts : Ty)
  | isx (a : PX) (c : XC)
  | mth (m : Mth) (a : PX) (es : PXs)
  | sset (a : PX)
  | err (e : PX)
/-- what makes a new list; `fl` takes it as one that nobody changes, `nl` as a new object of the store -/
inductive PXl where
  | disp (es : PXs)
  | lr1 (a : PX)
  | lr2 (a b : PX)
  | ofl (e : PX)
  | cat (a b : PX)
  | rep (a b : PX)
  | comp (own : List Nat) (t : Tg) (s : PXr) (c : PX) (e : PX)
  | comp2 (own : List Nat) (t : Tg) (s : PXr) (own2 : List Nat) (t2 : Tg) (s2 : PXr) (c : PX) (e : PX)
/-- lists of expressions -/
inductive PXs where
  | nil
  | cons (e : PX) (es : PXs)
/-- what a for walks -/
inductive PXr where
  | val (e : PX)
  | rng (a : PX)
  | rng2 (a b : PX)
  | rng3 (a b c : PX)
  | zip (a b : PX)
  | enum (a : PX)
end
mutual
inductive PS where
  | pass
  | bad
  | asg (t : Tg) (e : PX)
  | par (ts : List Nat) (es : PXs)
  | setI (o i e : PX)
  | setI2 (o i : PX) (j : Nat) (a b : PX)
  | aug (i : Nat) (op : BOp) (e : PX)
  | app (o e : PX)
  | ex (e : PX)
  | ret (e : PX)
  | raise (c : XC) (es : PXs)
  | ifs (c : PX) (a b : PSs)
  | whl (c : PX) (b : PSs)
  | for_ (t : Tg) (s : PXr) (b : PSs)
inductive PSs where
  | nil
  | cons (s : PS) (r : PSs)
end
/-! ### values -/
def LIM : Nat := 16777216
/-- a list's items -/
def asList (S : PSt) : PV → Option (List PV)
  | .lst xs => some xs
  | .ref n => (match S[n]? with
    | some (.lst xs) => some xs
    | _ => none)
  | _ => none
def asSeq (S : PSt) : PV → Option (List PV)
  | .tup xs => some xs
  | .scr ns => some (ns.map .int)
  | v => asList S v
mutual
/-- data: no object that changes, no def -/
def isData : PV → Bool
  | .non | .bl _ | .int _ | .str _ => true
  | .tup xs | .lst xs => isDatas xs
  | _ => false
def isDatas : List PV → Bool
  | [] => true
  | x :: xs => isData x && isDatas xs
end
mutual
def depth : PV → Nat
  | .tup xs | .lst xs => depths xs + 1
  | _ => 0
def depths : List PV → Nat
  | [] => 0
  | x :: xs => max (depth x) (depths xs)
end
mutual
/-- Python's == of data -/
def pyEq : PV → PV → Bool
  | .non, .non => true
  | .bl a, .bl b => a == b
  | .bl a, .int j => (if a then 1 else 0) == j
  | .int i, .bl b => i == (if b then 1 else 0)
  | .int i, .int j => i == j
  | .str x, .str y => x == y
  | .lst xs, .lst ys => pyEqs xs ys
  | .tup xs, .tup ys => pyEqs xs ys
  | _, _ => false
def pyEqs : List PV → List PV → Bool
  | [], [] => true
  | x :: xs, y :: ys => pyEq x y && pyEqs xs ys
  | _, _ => false
end
/-- a top-level list of the store as data -/
def top1 (S : PSt) : PV → PV
  | .ref n => (match S[n]? with
    | some (.lst xs) => .lst xs
    | _ => .ref n)
  | v => v
def eqV (S : PSt) (a b : PV) : Option Bool :=
  let x := top1 S a
  let y := top1 S b
  if isData x && isData y && decide (min (depth x) (depth y) ≤ 60) then some (pyEq x y) else none
def truthy (S : PSt) : PV → Option Bool
  | .non => some false
  | .bl b => some b
  | .int i => some (i != 0)
  | .str x => if x.length ≤ LIM then some ((x.length : Int) != 0) else none
  | .tup xs => some (!xs.isEmpty)
  | v => (asList S v).map fun xs => !xs.isEmpty
def b2i (b : Bool) : Int := if b then 1 else 0
/-- an int or a bool as an int -/
def asInt : PV → Option Int
  | .int i => some i
  | .bl b => some (b2i b)
  | _ => none
def mulOk (i j : Int) : Bool := decide (-(2 ^ 64) < i ∧ i < 2 ^ 64) || decide (-(2 ^ 64) < j ∧ j < 2 ^ 64) || decide (i.natAbs.log2 + j.natAbs.log2 + 4 ≤ 1000000)
def divOk (j : Int) : Bool := decide (0 < j) && (decide (j < 1073741824) || decide (j.natAbs.log2 + 2 ≤ 9000))
/-- binary operations by values; lists of the store are read, what comes is new -/
def binV (S : PSt) : BOp → PV → PV → Option PV
  | .add, .int i, .int j => some (.int (i + j))
  | .add, .bl i, .int j => some (.int (b2i i + j))
  | .add, .int i, .bl j => some (.int (i + b2i j))
  | .add, .str x, .str y => if x.length + y.length ≤ LIM then some (.str (x ++ y)) else none
  | .add, .tup xs, .tup ys => if xs.length + ys.length ≤ LIM then some (.tup (xs ++ ys)) else none
  | .add, a, b => (match asList S a, asList S b with
    | some xs, some ys => if xs.length + ys.length ≤ LIM then some (.lst (xs ++ ys)) else none
    | _, _ => none)
  | .sub, .int i, .int j => some (.int (i - j))
  | .sub, .bl i, .int j => some (.int (b2i i - j))
  | .mul, .int i, .int j => if mulOk i j then some (.int (i * j)) else none
  | .mul, .int i, .bl j => some (.int (i * b2i j))
  | .mul, .tup xs, .int k => if !xs.isEmpty && decide (2 ≤ k) && decide (k ≤ 1000) && decide (xs.length ≤ 1000) then some (.tup (List.replicate k.toNat xs).flatten) else none
  | .mul, .lst xs, .int k => if decide (-1000000 < k) && decide (k < 1000000) && decide (xs.length * k.toNat ≤ LIM) then some (.lst (List.replicate k.toNat xs).flatten) else none
  | .fdiv, .int i, .int j => if divOk j then some (.int (i / j)) else none
  | .mod, .int i, .int j => if 0 < j then some (.int (i % j)) else none
  | .pow, .int i, .int j => if decide (0 ≤ j) && decide (j ≤ 1000000) && decide (i.natAbs < 2 ^ 64) then some (.int (i ^ j.toNat)) else none
  | _, _, _ => none
def isNon : PV → Bool
  | .non => true
  | _ => false
def notScr : PV → Bool
  | .scr _ => false
  | _ => true
/-- is x in xs -/
def inV (x : PV) : List PV → Bool
  | [] => false
  | y :: ys => pyEq y x || inV x ys
def lookV (x : PV) : List (PV × PV) → Option PV
  | [] => none
  | (k, v) :: r => if pyEq k x then some v else lookV x r
def cmpV (S : PSt) : COp → PV → PV → Option Bool
  | .eq, a, b => eqV S a b
  | .ne, a, b => (eqV S a b).map (!·)
  | .lt, .int i, .int j => some (decide (i < j))
  | .le, .int i, .int j => some (decide (i ≤ j))
  | .gt, .int i, .int j => some (decide (j < i))
  | .ge, .int i, .int j => some (decide (j ≤ i))
  | .is, a, .non => some (isNon a)
  | .isnot, a, .non => some (!isNon a)
  | .is, .bl c, .bl b => some (decide (c = b))
  | .isnot, .bl c, .bl b => some (!decide (c = b))
  | .inn, .str x, .str y => some (!(Builtin.Str.occurrences y x 0 y.length 1).isEmpty)
  | .notin, .str x, .str y => some (!(!(Builtin.Str.occurrences y x 0 y.length 1).isEmpty))
  | .inn, a, b => inC S a b
  | .notin, a, b => (inC S a b).map (!·)
  | _, _, _ => none
where
  inC (S : PSt) (a b : PV) : Option Bool := match asSeq S b with
    | some ys => if isData a && isDatas ys && decide (depth a ≤ 60) && notScr b then some (inV a ys) else none
    | none => none
/-- the place of an index -/
def idxV (S : PSt) (a : PV) (i : PV) : Option PV := match i with
  | .int i => (match a with
    | .str x => if x.length ≤ LIM then (L2.atI x.cps.toList i).map fun c => .str ⟨#[c]⟩ else none
    | a => (match asSeq S a with
      | some xs => L2.atI xs i
      | none => none))
  | _ => none
/-- the part of a list between two bounds -/
def cutP (xs : List PV) (lo hi : Option Int) : List PV := (xs.drop (HT.sIx xs.length 0 lo)).take (HT.sIx xs.length xs.length hi - HT.sIx xs.length 0 lo)
def sliceV (S : PSt) (a : PV) (lo hi : Option Int) : Option PV := match a with
  | .tup xs => some (.tup (cutP xs lo hi))
  | .str x => if x.length ≤ LIM then some (.str (L2.cutS x lo hi)) else none
  | a => (asList S a).map fun xs => .lst (cutP xs lo hi)
def tyV (S : PSt) : PV → Ty → Option Bool
  | .non, _ => some false
  | .bl _, t => some (t == .int || t == .bool)
  | .int _, t => some (t == .int)
  | .str _, t => some (t == .str)
  | .tup _, t => some (t == .tuple)
  | .lst _, t => some (t == .list)
  | _, _ => none
/-- int(text) of at most 600 signs -/
def bltV (S : PSt) : Blt → List PV → Option PV
  | .len, [.str x] => if x.length ≤ LIM then some (.int x.length) else none
  | .len, [v] => (match asSeq S v with
    | some xs => some (.int xs.length)
    | none => none)
  | .abs, [.int i] => some (.int (if i < 0 then -i else i))
  | .int, [.int i] => some (.int i)
  | .int, [.bl b] => some (.int (b2i b))
  | .int, [.str x] => if x.length ≤ 600 then (PySem.intText? x).map .int else none
  | .str, [.int i] => if i.natAbs.log2 < 1920 then some (.str (toString i)) else none
  | .str, [.bl b] => some (.str (if b then "True" else "False"))
  | .str, [.str x] => some (.str x)
  | .tuple, [.tup xs] => some (.tup xs)
  | .tuple, [v] => (asList S v).map .tup
  | .min2, [.int i, .int j] => some (.int (if j < i then j else i))
  | .max2, [.int i, .int j] => some (.int (if j > i then j else i))
  | .bool, [.bl b] => some (.bl b)
  | _, _ => none
def strsOf : List PV → Option (List PySem.Str)
  | [] => some []
  | .str x :: r => (strsOf r).map (x :: ·)
  | _ :: _ => none
def mthV (S : PSt) : Mth → PV → List PV → Option PV
  | .split, .str x, [.str y] => if decide (y.length = 1) && y.cps.all (· < 256) && decide (x.length + 2 ≤ LIM) then some (.lst ((Txt.split x y).map .str)) else none
  | .join, .str x, [v] => (match asList S v with
    | some xs => (match strsOf xs with
      | some ys => if decide ((ys.map (·.length)).sum + ys.length * x.length ≤ LIM) then some (.str (Txt.join x ys)) else none
      | none => none)
    | none => none)
  | _, _, _ => none
/-! ### targets, sources -/
mutual
def bindT : Tg → PV → Env → Option Env
  | .nm i, v, ρ => if i < ρ.length then some (ρ.set i (some v)) else none
  | .tp ts, .tup xs, ρ => if ts.length = xs.length then bindTs ts xs ρ else none
  | .tp _, _, _ => none
def bindTs : List Tg → List PV → Env → Option Env
  | [], [], ρ => some ρ
  | t :: ts, x :: xs, ρ => (match bindT t x ρ with
    | some ρ' => bindTs ts xs ρ'
    | none => none)
  | _, _, _ => none
end
def wipeE (ρ : Env) : List Nat → Env
  | [] => ρ
  | i :: r => (wipeE ρ r).set i none
/-- lists of the store that must stand while they are walked -/
abbrev Gd := List (Nat × List PV)
def gdOk (g : Gd) (S : PSt) : Prop := ∀ p ∈ g, S[p.1]? = some (.lst p.2)
mutual
/-- the very same value -/
def same : PV → PV → Bool
  | .non, .non => true
  | .bl a, .bl b => a == b
  | .int i, .int j => decide (i = j)
  | .str x, .str y => decide (x = y)
  | .tup xs, .tup ys => sames xs ys
  | .lst xs, .lst ys => sames xs ys
  | .ref n, .ref m => n == m
  | .fn f, .fn g => decide (f = g)
  | .cls c, .cls d => decide (c = d)
  | .exn c vs, .exn d ws => decide (c = d) && sames vs ws
  | .scr ns, .scr ms => decide (ns = ms)
  | _, _ => false
def sames : List PV → List PV → Bool
  | [], [] => true
  | x :: xs, y :: ys => same x y && sames xs ys
  | _, _ => false
end
mutual
theorem same_iff : ∀ a b : PV, same a b = true ↔ a = b
  | .non, b => by cases b <;> simp [same]
  | .bl _, b => by cases b <;> simp [same]
  | .int _, b => by cases b <;> simp [same]
  | .str _, b => by cases b <;> simp [same]
  | .tup xs, b => by cases b <;> simp [same, sames_iff xs]
  | .lst xs, b => by cases b <;> simp [same, sames_iff xs]
  | .ref _, b => by cases b <;> simp [same]
  | .fn _, b => by cases b <;> simp [same]
  | .cls _, b => by cases b <;> simp [same]
  | .exn _ vs, b => by cases b <;> simp [same, sames_iff vs]
  | .scr _, b => by cases b <;> simp [same]
theorem sames_iff : ∀ a b : List PV, sames a b = true ↔ a = b
  | [], b => by cases b <;> simp [sames]
  | x :: xs, b => by cases b <;> simp [sames, same_iff x, sames_iff xs]
end
def gdB (g : Gd) (S : PSt) : Bool := g.all fun p => match S[p.1]? with
  | some (.lst xs) => sames xs p.2
  | _ => false
theorem gdB_iff (g : Gd) (S : PSt) : gdB g S = true ↔ gdOk g S := by
  unfold gdB gdOk
  rw [List.all_eq_true]
  refine ⟨fun h p hp => ?_, fun h p hp => ?_⟩
  · have := h p hp
    split at this
    · rename_i xs e
      rw [e, (sames_iff _ _).mp this]
    · cases this
  · rw [h p hp]
    exact (sames_iff _ _).mpr rfl
instance (g : Gd) (S : PSt) : Decidable (gdOk g S) := if h : gdB g S = true then .isTrue ((gdB_iff g S).mp h) else .isFalse fun z => h ((gdB_iff g S).mpr z)
def compL (f : PV → PSt → R (List PV)) (g : Gd) : List PV → PSt → R (List PV)
  | [], S => if gdOk g S then .ok [] S else .err
  | x :: xs, S => if gdOk g S then (f x S).bind fun o S' => (compL f g xs S').bind fun r S'' => .ok (o ++ r) S'' else .err
def rngL (lo : Int) (n : Nat) : List PV := (List.range n).map fun i => .int (lo + (i : Nat))
def zipL : List PV → List PV → List PV
  | x :: xs, y :: ys => .tup [x, y] :: zipL xs ys
  | _, _ => []
def enumL : Nat → List PV → List PV
  | _, [] => []
  | n, x :: xs => .tup [.int n, x] :: enumL (n + 1) xs
def srcL (S : PSt) : PV → Option (List PV × Gd)
  | .lst xs => some (xs, [])
  | .tup xs => some (xs, [])
  | .str x => some (x.cps.toList.map fun c => .str ⟨#[c]⟩, [])
  | .ref n => (match S[n]? with
    | some (.lst xs) => some (xs, [(n, xs)])
    | _ => none)
  | _ => none
/-- flow of a statement -/
inductive Fl where
  | nx (ρ : Env)
  | ret (v : PV)
noncomputable section
def forL (f : PV → Env → PSt → R Fl) (g : Gd) : List PV → Env → PSt → R Fl
  | [], ρ, S => if gdOk g S then .ok (.nx ρ) S else .err
  | x :: xs, ρ, S => if gdOk g S then (f x ρ S).bind fun fl S' => (match fl with
    | .nx ρ' => forL f g xs ρ' S'
    | .ret v => .ok (.ret v) S') else .err
/-- at most n turns of a while -/
def whlN (c : Env → PSt → R Bool) (b : Env → PSt → R Fl) : Nat → Env → PSt → Option (R Fl)
  | 0, _, _ => none
  | n + 1, ρ, S => match c ρ S with
    | .ok false S' => some (.ok (.nx ρ) S')
    | .ok true S' => (match b ρ S' with
      | .ok (.nx ρ') S'' => whlN c b n ρ' S''
      | r => some r)
    | .exc c vs S' => some (.exc c vs S')
    | .err => some .err
open Classical in
def whlL (c : Env → PSt → R Bool) (b : Env → PSt → R Fl) (ρ : Env) (S : PSt) : R Fl := match whlN c b 10000 ρ S with
  | some r => r
  | none => if h : ∃ n r, whlN c b n ρ S = some r then Classical.choose (Classical.choose_spec h) else .err
end
end Pw
/-! Pw2: the plain interpreter. -/
namespace Pw
open PySem
/-- what `_law_error` tells of an error -/
def XC.told : XC → PySem.Str
  | .PanelError => "value" | .InvalidWardrobe => "wardrobe value" | .InvalidFacts => "facts value" | .InvalidFact => "fact value" | .InvalidWidths => "widths value" | .InvalidShelves => "shelves value"
  | .InvalidStanding => "standing value" | .InvalidMoves => "moves value" | .InvalidTruth => "truth value" | .InvalidNumber => "number value" | .InvalidIndex => "index value" | .Impossible => "impossible value"
  | .Unlike => "unlike value" | .NothingToUndo => "undo value" | .TooMany => "many value" | .InvalidText => "text value"
def isStr : PV → Bool
  | .str _ => true
  | _ => false
def rng3Ok (i j k : Int) : Bool := decide (k ≠ 0) && decide (k.natAbs < 1073741824) && Builtin.Range.small i j k && decide (0 ≤ Builtin.Range.rangeSize i j k)
def small62 (i : Int) : Bool := decide (-(2 ^ 62) ≤ i) && decide (i < 2 ^ 62)
abbrev Calls := F → List PV → PSt → R PV
/-- no error leaves a comprehension -/
def noX {α : Type} : R α → R α
  | .ok a S => .ok a S
  | _ => .err
@[simp] theorem noX_ok {α : Type} (a : α) (S : PSt) : noX (.ok a S) = .ok a S := eqOf rfl
@[simp] theorem noX_exc {α : Type} (c : XC) (vs : List PV) (S : PSt) : noX (.exc c vs S : R α) = .err := eqOf rfl
@[simp] theorem noX_err {α : Type} : noX (.err : R α) = .err := eqOf rfl
/-- sorted(set(ints)) -/
def insI (x : Int) : List Int → List Int
  | [] => [x]
  | y :: r => if x < y then x :: y :: r else if x = y then y :: r else y :: insI x r
def intsOf : List PV → Option (List Int)
  | [] => some []
  | .int i :: r => (intsOf r).map (i :: ·)
  | _ :: _ => none
def ssetV (xs : List PV) : Option (List PV) := (intsOf xs).map fun ns => (ns.foldr insI []).map .int
noncomputable section
/-- a turn of a comprehension -/
def turn1 (t : Tg) (own : List Nat) (rc : Env → PSt → R Bool) (re : Env → PSt → R PV) (ρ : Env) (x : PV) (S : PSt) : R (List PV) := match bindT t x (wipeE ρ own) with
  | some ρ' => noX ((rc ρ' S).bind fun k S => if k = true then (re ρ' S).bind fun v S => .ok [v] S else .ok [] S)
  | none => .err
def turn2 (t : Tg) (own : List Nat) (rs : Env → PSt → R (List PV × Gd)) (t2 : Tg) (own2 : List Nat) (rc : Env → PSt → R Bool) (re : Env → PSt → R PV) (ρ : Env) (x : PV) (S : PSt) : R (List PV) := match bindT t x (wipeE ρ own) with
  | some ρ' => (noX (rs ρ' S)).bind fun p2 S => compL (turn1 t2 own2 rc re ρ') p2.2 p2.1 S
  | none => .err
def capL (vs : List PV) (S : PSt) : R (List PV) := if vs.length ≤ LIM then .ok vs S else .err
mutual
def ev (C : Calls) : PX → Env → PSt → R PV
  | .var i, ρ, S => R.ofO S (ρ[i]?.join)
  | .cst v, _, S => .ok v S
  | .fn f, _, S => .ok (.fn f) S
  | .xcls c, _, S => .ok (.cls c) S
  | .mw, _, S => .ok (.int 1000000) S
  | .tup es, ρ, S => (evs C es ρ S).bind fun vs S => .ok (.tup vs) S
  | .fl l, ρ, S => (evL C l ρ S).bind fun vs S => .ok (.lst vs) S
  | .nl l, ρ, S => (evL C l ρ S).bind fun vs S => .ok (.ref S.length) (S ++ [.lst vs])
  | .bin op a b, ρ, S => (ev C a ρ S).bind fun x S => (ev C b ρ S).bind fun y S => R.ofO S (binV S op x y)
  | .neg a, ρ, S => (ev C a ρ S).bind fun x S => (match x with
    | .int i => .ok (.int (-i)) S
    | _ => .err)
  | .not a, ρ, S => (ev C a ρ S).bind fun x S => (R.ofO S (truthy S x)).bind fun k S => .ok (.bl (!k)) S
  | .cmp op a b, ρ, S => (ev C a ρ S).bind fun x S => (ev C b ρ S).bind fun y S => R.ofO S ((cmpV S op x y).map .bl)
  | .chain o1 o2 a b c, ρ, S => (ev C a ρ S).bind fun x S => (ev C b ρ S).bind fun y S => (R.ofO S (cmpV S o1 x y)).bind fun k S =>
      if k = true then (ev C c ρ S).bind fun z S => R.ofO S ((cmpV S o2 y z).map .bl) else .ok (.bl false) S
  | .and a b, ρ, S => (ev C a ρ S).bind fun x S => (R.ofO S (truthy S x)).bind fun k S => if k = true then ev C b ρ S else .ok x S
  | .or a b, ρ, S => (ev C a ρ S).bind fun x S => (R.ofO S (truthy S x)).bind fun k S => if k = true then .ok x S else ev C b ρ S
  | .ife c a b, ρ, S => (evT C c ρ S).bind fun k S => if k = true then ev C a ρ S else ev C b ρ S
  | .idx a i, ρ, S => (ev C a ρ S).bind fun x S => (ev C i ρ S).bind fun y S => R.ofO S (idxV S x y)
  | .sl a lo hi, ρ, S => (ev C a ρ S).bind fun x S => (ev C lo ρ S).bind fun y S => (match y with
    | .int i => (ev C hi ρ S).bind fun z S => (match z with
      | .int j => R.ofO S (sliceV S x (some i) (some j))
      | _ => .err)
    | _ => .err)
  | .slf a lo, ρ, S => (ev C a ρ S).bind fun x S => (ev C lo ρ S).bind fun y S => (match y with
    | .int i => R.ofO S (sliceV S x (some i) none)
    | _ => .err)
  | .slt a hi, ρ, S => (ev C a ρ S).bind fun x S => (ev C hi ρ S).bind fun y S => (match y with
    | .int i => R.ofO S (sliceV S x none (some i))
    | _ => .err)
  | .rev a, ρ, S => (ev C a ρ S).bind fun x S => (match x with
    | .tup xs => .ok (.tup xs.reverse) S
    | x => (match asList S x with
      | some xs => .ok (.lst xs.reverse) S
      | none => .err))
  | .call f es, ρ, S => (evs C es ρ S).bind fun vs S => C f vs S
  | .callv e es, ρ, S => (ev C e ρ S).bind fun x S => (match x with
    | .fn f => (evs C es ρ S).bind fun vs S => C f vs S
    | _ => .err)
  | .blt b es, ρ, S => (evs C es ρ S).bind fun vs S => R.ofO S (bltV S b vs)
  | .isi a t, ρ, S => (ev C a ρ S).bind fun x S => R.ofO S ((tyV S x t).map .bl)
  | .isx a c, ρ, S => .err
  | .mth m a es, ρ, S => (ev C a ρ S).bind fun x S => if isStr x then (evs C es ρ S).bind fun vs S => R.ofO S (mthV S m x vs) else .err
  | .sset a, ρ, S => (ev C a ρ S).bind fun x S => (match asSeq S x with
    | some xs => (match ssetV xs with
      | some ys => .ok (.lst ys) S
      | none => .err)
    | none => .err)
  | .err e, ρ, S => (match ev C e ρ S with
    | .ok _ S => .ok (.str Str.empty) S
    | .exc c _ S => .ok (.str c.told) S
    | .err => .err)
def evT (C : Calls) : PX → Env → PSt → R Bool
  | .not a, ρ, S => (evT C a ρ S).bind fun b S => .ok (!b) S
  | .and a b, ρ, S => (evT C a ρ S).bind fun k S => if k = true then evT C b ρ S else .ok false S
  | .or a b, ρ, S => (evT C a ρ S).bind fun k S => if k = true then .ok true S else evT C b ρ S
  | .cst v, _, S => R.ofO S (truthy S v)
  | .cmp op a b, ρ, S => (ev C a ρ S).bind fun x S => (ev C b ρ S).bind fun y S => R.ofO S (cmpV S op x y)
  | .chain o1 o2 a b c, ρ, S => (ev C a ρ S).bind fun x S => (ev C b ρ S).bind fun y S => (R.ofO S (cmpV S o1 x y)).bind fun k S =>
      if k = true then (ev C c ρ S).bind fun z S => R.ofO S (cmpV S o2 y z) else .ok false S
  | .var i, ρ, S => (R.ofO S (ρ[i]?.join)).bind fun x S => R.ofO S (truthy S x)
  | .call f es, ρ, S => ((evs C es ρ S).bind fun vs S => C f vs S).bind fun x S => R.ofO S (truthy S x)
  | .idx a i, ρ, S => ((ev C a ρ S).bind fun x S => (ev C i ρ S).bind fun y S => R.ofO S (idxV S x y)).bind fun x S => R.ofO S (truthy S x)
  | .isi a t, ρ, S => (ev C a ρ S).bind fun x S => R.ofO S (tyV S x t)
  | .blt b es, ρ, S => ((evs C es ρ S).bind fun vs S => R.ofO S (bltV S b vs)).bind fun x S => R.ofO S (truthy S x)
  | .callv e es, ρ, S => ((ev C e ρ S).bind fun x S => (match x with
    | .fn f => (evs C es ρ S).bind fun vs S => C f vs S
    | _ => .err)).bind fun x S => R.ofO S (truthy S x)
  | _, _, _ => .err
def evL (C : Calls) : PXl → Env → PSt → R (List PV)
  | .disp es, ρ, S => evs C es ρ S
  | .lr1 a, ρ, S => (ev C a ρ S).bind fun v S => (match v with
    | .int j => if small62 j && decide (j.toNat ≤ LIM) then .ok (rngL 0 j.toNat) S else .err
    | _ => .err)
  | .lr2 a b, ρ, S => (ev C a ρ S).bind fun v S => (ev C b ρ S).bind fun w S => (match v, w with
    | .int i, .int j => if small62 i && small62 j && decide ((j - i).toNat ≤ LIM) then .ok (rngL i (j - i).toNat) S else .err
    | _, _ => .err)
  | .ofl e, ρ, S => (ev C e ρ S).bind fun v S => R.ofO S (asSeq S v)
  | .cat a b, ρ, S => (ev C a ρ S).bind fun x S => (ev C b ρ S).bind fun y S => (match asList S x, asList S y with
    | some xs, some ys => if xs.length + ys.length ≤ LIM then .ok (xs ++ ys) S else .err
    | _, _ => .err)
  | .rep a b, ρ, S => (ev C a ρ S).bind fun x S => (ev C b ρ S).bind fun y S => (match asList S x, y with
    | some xs, .int k => if decide (-1000000 < k) && decide (k < 1000000) && decide (xs.length * k.toNat ≤ LIM) then .ok (List.replicate k.toNat xs).flatten S else .err
    | _, _ => .err)
  | .comp own t s c e, ρ, S => (evR C s ρ S).bind fun p S => (compL (turn1 t own (evT C c) (ev C e) ρ) p.2 p.1 S).bind capL
  | .comp2 own t s own2 t2 s2 c e, ρ, S => (evR C s ρ S).bind fun p S => (compL (turn2 t own (evR C s2) t2 own2 (evT C c) (ev C e) ρ) p.2 p.1 S).bind capL
def evs (C : Calls) : PXs → Env → PSt → R (List PV)
  | .nil, _, S => .ok [] S
  | .cons e es, ρ, S => (ev C e ρ S).bind fun v S => (evs C es ρ S).bind fun vs S => .ok (v :: vs) S
def evR (C : Calls) : PXr → Env → PSt → R (List PV × Gd)
  | .val e, ρ, S => (ev C e ρ S).bind fun v S => R.ofO S (srcL S v)
  | .rng a, ρ, S => (ev C a ρ S).bind fun v S => (match v with
    | .int j => if small62 j then .ok (rngL 0 j.toNat, []) S else .err
    | _ => .err)
  | .rng2 a b, ρ, S => (ev C a ρ S).bind fun v S => (ev C b ρ S).bind fun w S => (match v, w with
    | .int i, .int j => if small62 i && small62 j then .ok (rngL i (j - i).toNat, []) S else .err
    | _, _ => .err)
  | .rng3 a b c, ρ, S => (ev C a ρ S).bind fun v S => (ev C b ρ S).bind fun w S => (ev C c ρ S).bind fun z S => (match v, w, z with
    | .int i, .int j, .int k => if rng3Ok i j k then .ok ((List.range (Builtin.Range.rangeSize i j k).toNat).map fun t => .int (i + (t : Nat) * k), []) S else .err
    | _, _, _ => .err)
  | .zip a b, ρ, S => (ev C a ρ S).bind fun v S => (ev C b ρ S).bind fun w S => if isStr v || isStr w then .err else (match srcL S v, srcL S w with
    | some p, some q => .ok (zipL p.1 q.1, p.2 ++ q.2) S
    | _, _ => .err)
  | .enum a, ρ, S => (ev C a ρ S).bind fun v S => (match v, srcL S v with
    | .tup _, _ => .err
    | .str _, _ => .err
    | _, some p => .ok (enumL 0 p.1, p.2) S
    | _, none => .err)
end
def parE : List Nat → List PV → Env → Option Env
  | [], [], ρ => some ρ
  | i :: is, v :: vs, ρ => if i < ρ.length then parE is vs (ρ.set i (some v)) else none
  | _, _, _ => none
/-- o[i] = v -/
def setV (S : PSt) (o i v : PV) : Option PSt := match o, i with
  | .ref n, .int i => (match S[n]? with
    | some (.lst xs) => (match L2.ixN xs.length i with
      | some k => some (S.set n (.lst (xs.set k v)))
      | none => none)
    | _ => none)
  | _, _ => none
def isMut (S : PSt) : PV → Bool
  | .ref n => (match S[n]? with
    | some (.lst _) => true
    | _ => false)
  | _ => false
def appV (S : PSt) (o v : PV) : Option PSt := match o with
  | .ref n => (match S[n]? with
    | some (.lst xs) => if xs.length < LIM then some (S.set n (.lst (xs ++ [v]))) else none
    | _ => none)
  | _ => none
mutual
def exec (C : Calls) : PS → Env → PSt → R Fl
  | .pass, ρ, S => .ok (.nx ρ) S
  | .bad, _, _ => .err
  | .asg t e, ρ, S => (ev C e ρ S).bind fun v S => (match bindT t v ρ with
    | some ρ' => .ok (.nx ρ') S
    | none => .err)
  | .par ts es, ρ, S => (evs C es ρ S).bind fun vs S => (match parE ts vs ρ with
    | some ρ' => .ok (.nx ρ') S
    | none => .err)
  | .setI o i e, ρ, S => (ev C e ρ S).bind fun v S => (ev C o ρ S).bind fun x S => (ev C i ρ S).bind fun y S => (match setV S x y v with
    | some S' => .ok (.nx ρ) S'
    | none => .err)
  | .setI2 o i j a b, ρ, S => (ev C a ρ S).bind fun v S => (ev C b ρ S).bind fun w S => (ev C o ρ S).bind fun x S => (ev C i ρ S).bind fun y S => (match setV S x y v with
    | some S' => if j < ρ.length then .ok (.nx (ρ.set j (some w))) S' else .err
    | none => .err)
  | .aug i op e, ρ, S => (R.ofO S (ρ[i]?.join)).bind fun x S => (ev C e ρ S).bind fun y S => (match op, x, y with
    | .add, .int a, .int b => .ok (.nx (ρ.set i (some (.int (a + b))))) S
    | _, _, _ => .err)
  | .app o e, ρ, S => (ev C o ρ S).bind fun x S => if isMut S x = true then (ev C e ρ S).bind fun v S => (match appV S x v with
    | some S' => .ok (.nx ρ) S'
    | none => .err) else .err
  | .ex e, ρ, S => (ev C e ρ S).bind fun _ S => .ok (.nx ρ) S
  | .ret e, ρ, S => (ev C e ρ S).bind fun v S => .ok (.ret v) S
  | .raise c es, ρ, S => (evs C es ρ S).bind fun vs S => .exc c vs S
  | .ifs c a b, ρ, S => (evT C c ρ S).bind fun k S => if k = true then execs C a ρ S else execs C b ρ S
  | .whl c b, ρ, S => whlL (evT C c) (execs C b) ρ S
  | .for_ t s b, ρ, S => (evR C s ρ S).bind fun p S => forL (fun x ρ S => (match bindT t x ρ with
    | some ρ' => execs C b ρ' S
    | none => .err)) p.2 p.1 ρ S
def execs (C : Calls) : PSs → Env → PSt → R Fl
  | .nil, ρ, S => .ok (.nx ρ) S
  | .cons s r, ρ, S => (exec C s ρ S).bind fun fl S => (match fl with
    | .nx ρ' => execs C r ρ' S
    | .ret v => .ok (.ret v) S)
end
end
/-! ### defs -/
structure PDef where
  np : Nat
  nl : Nat
  body : PSs
  clean : Bool := true
  nat : Option (List PV → PSt → Option PV) := none
mutual
/-- no object of the store from n on -/
def okV (n : Nat) : PV → Bool
  | .ref m => decide (m < n)
  | .tup xs | .lst xs => okVs n xs
  | .exn _ xs => okVs n xs
  | _ => true
def okVs (n : Nat) : List PV → Bool
  | [] => true
  | x :: xs => okV n x && okVs n xs
end
def okO (n : Nat) : PO → Bool
  | .lst xs => okVs n xs
  | .dct kvs => kvs.all fun p => okV n p.1 && okV n p.2
/-- the store tells of its own objects alone -/
def okS (S : PSt) : Bool := S.all (okO S.length)
/-- a list that was made within is handed out: nobody changes it any more -/
def fz (n : Nat) (S : PSt) : PV → PV
  | .ref m => if m < n then .ref m else (match S[m]? with
    | some (.lst xs) => .lst xs
    | _ => .ref m)
  | v => v
def fin (clean : Bool) (n : Nat) (v : PV) (S' : PSt) : R PV :=
  if clean = true then (if S'.length = n then .ok v S' else if okV n (fz n S' v) && (S'.take n).all (okO n) then .ok (fz n S' v) (S'.take n) else .err) else .ok v S'
def finX (clean : Bool) (n : Nat) (c : XC) (vs : List PV) (S' : PSt) : R PV :=
  if clean = true then (if S'.length = n then .exc c vs S' else if okVs n vs && (S'.take n).all (okO n) then .exc c vs (S'.take n) else .err) else .exc c vs S'
noncomputable section
/-- a def's body, run -/
def runB (D : PDef) (C : Calls) (vs : List PV) (S : PSt) : R PV := match execs C D.body (vs.map some ++ List.replicate (D.nl - D.np) none) S with
  | .ok (.ret v) S' => fin D.clean S.length v S'
  | .ok (.nx _) S' => fin D.clean S.length .non S'
  | .exc c ws S' => finX D.clean S.length c ws S'
  | .err => .err
def run (T : F → PDef) : Nat → F → List PV → PSt → R PV
  | 0, _, _, _ => .err
  | d + 1, f, vs, S => if vs.length = (T f).np then (match (T f).nat with
    | some g => R.ofO S (g vs S)
    | none => runB (T f) (run T d) vs S) else .err
end
end Pw
/-! Pw3: how plain values and the small store lie in the abstract heap; what a plain run asks of the walk. -/
namespace Pw
open PySem PySem.Spec PyProof.Rows L2
/-- the ground: what is fixed through a row -/
structure Gr where
  P : Program
  w : World
  K : PySem.W.Frag
  mg : PySem.Str → Option Value
  base : Heap
  Ts : List (Addr × PySem.Str)
  T : F → PDef
  okF : F → Bool
  okX : XC → Bool
section
variable (G : Gr) (φ η : List Addr) (H : Hp)
mutual
def Rep : PV → V → Prop
  | .non, v => v = .non
  | .bl b, v => v = .bl b
  | .int i, v => v = .int i
  | .str x, v => v = .str x ∧ PyData.strOk x = true
  | .tup xs, v => ∃ a vs, v = .ref a ∧ H a = some (.tup vs) ∧ a ∉ φ ∧ a ∉ η ∧ Reps xs vs
  | .lst xs, v => ∃ a vs, v = .ref a ∧ H a = some (.lst vs) ∧ a ∉ φ ∧ a ∉ η ∧ Reps xs vs
  | .ref n, v => ∃ a, φ[n]? = some a ∧ v = .ref a
  | .fn f, v => ∃ a, G.mg f.py = some (.ref a) ∧ v = .ref a ∧ G.okF f = true
  | .cls c, v => ∃ a, G.mg c.py = some (.ref a) ∧ v = .ref a
  | .exn _ _, _ => False
  | .scr ns, v => ∃ a, v = .ref a ∧ ((Rd H a (.lst (ns.map V.int)) ∧ a ∉ φ ∧ a ∉ η) ∨ SqL G.K (fun _ => none) a (ns.map V.int))
def Reps : List PV → List V → Prop
  | [], vs => vs = []
  | x :: xs, vs => ∃ u us, vs = u :: us ∧ Rep x u ∧ Reps xs us
end
/-- an object of the store -/
def ORep : PO → Addr → Prop
  | .lst xs, a => ∃ vs, H a = some (.lst vs) ∧ Reps G φ η H xs vs
  | .dct _, _ => False
end
/-- no table of code objects -/
def NT (o : HO) : Prop := ∀ ps, o ≠ .tbl ps
theorem NT.lst {xs : List V} : NT (.lst xs) := fun _ z => by cases z
theorem NT.tup {xs : List V} : NT (.tup xs) := fun _ z => by cases z
structure StRep (G : Gr) (φ η : List Addr) (H : Hp) (S : PSt) : Prop where
  hid : ∀ a ∈ η, ∃ o, H a = some o ∧ NT o
  nd : φ.Nodup
  len : φ.length = S.length
  objs : ∀ (n : Nat) (o : PO) (a : Addr), S[n]? = some o → φ[n]? = some a → ORep G φ η H o a
  tabs : LamX.Tabs G.Ts H
/-- the heap may grow; the objects of the store and the tables may change -/
structure Ext (φ φ' : List Addr) (H H' : Hp) : Prop where
  pre : ∃ new, φ' = φ ++ new ∧ ∀ a ∈ new, ∀ o, H a = some o → ¬ NT o
  keep : ∀ a o, H a = some o → a ∉ φ → (∀ ps, o ≠ .tbl ps) → H' a = some o
  there : ∀ a o, H a = some o → NT o → ∃ o', H' a = some o' ∧ NT o'
theorem Ext.refl (φ : List Addr) (H : Hp) : Ext φ φ H H := ⟨⟨[], by simp, by simp⟩, fun _ _ e _ _ => e, fun _ o e t => ⟨o, e, t⟩⟩
theorem Ext.trans {φ φ' φ'' : List Addr} {H H' H'' : Hp} (x : Ext φ φ' H H') (y : Ext φ' φ'' H' H'') : Ext φ φ'' H H'' := by
  obtain ⟨n1, e1, f1⟩ := x.pre
  obtain ⟨n2, e2, f2⟩ := y.pre
  refine ⟨⟨n1 ++ n2, by rw [e2, e1, List.append_assoc], fun a ha o q t => ?_⟩, fun a o e na nt => ?_, fun a o e t => ?_⟩
  · rcases List.mem_append.mp ha with h | h
    · exact f1 a h o q t
    · obtain ⟨o', z, t'⟩ := x.there a o q t
      exact f2 a h o' z t'
  · refine y.keep a o (x.keep a o e na nt) (fun hm' => ?_) nt
    rw [e1] at hm'
    rcases List.mem_append.mp hm' with h | h
    · exact na h
    · exact f1 a h o e nt
  · obtain ⟨o', z, t'⟩ := x.there a o e t
    exact y.there a o' z t'
section
variable {G : Gr} {φ φ' η : List Addr} {H H' : Hp} {S : PSt}
theorem Ext.notin (x : Ext φ φ' H H') {a : Addr} {o : HO} (h : H a = some o) (t : NT o) (n : a ∉ φ) : a ∉ φ' := by
  obtain ⟨n1, e1, f1⟩ := x.pre
  rw [e1]
  intro hm
  rcases List.mem_append.mp hm with h' | h'
  · exact n h'
  · exact f1 a h' o h t
theorem Ext.get (x : Ext φ φ' H H') {n : Nat} {a : Addr} (h : φ[n]? = some a) : φ'[n]? = some a := by
  obtain ⟨n1, e1, f1⟩ := x.pre
  rw [e1, List.getElem?_append_left (List.getElem?_eq_some_iff.mp h).1]
  exact h
theorem Ext.rd (x : Ext φ φ' H H') {a : Addr} {u : HO} (h : Rd H a u) (n : a ∉ φ) (nt : ∀ ps, u ≠ .tbl ps) : Rd H' a u := by
  rcases h with h | ⟨o, h⟩
  · exact .inl (x.keep a u h n nt)
  · exact .inr ⟨o, x.keep a _ h n fun ps z => by cases z⟩
theorem Rd.some {a : Addr} {u : HO} (h : Rd H a u) (t : NT u) : ∃ o, H a = some o ∧ NT o := by
  rcases h with h | ⟨o, h⟩
  · exact ⟨_, h, t⟩
  · exact ⟨_, h, fun _ z => by cases z⟩
theorem Ext.no (x : Ext φ φ' H H') {a : Addr} {u : HO} (h : Rd H a u) (t : NT u) (n : a ∉ φ) : a ∉ φ' := by
  obtain ⟨o, e, t'⟩ := Rd.some h t
  exact x.notin e t' n
mutual
theorem Rep.mono (x : Ext φ φ' H H') : ∀ {p : PV} {v : V}, Rep G φ η H p v → Rep G φ' η H' p v
  | .non, _, h => h
  | .bl _, _, h => h
  | .int _, _, h => h
  | .str _, _, h => h
  | .tup xs, _, h => by
    obtain ⟨a, vs, e, r, n, n', q⟩ := h
    exact ⟨a, vs, e, x.keep _ _ r n (fun ps z => by cases z), x.notin r .tup n, n', Reps.mono x q⟩
  | .lst xs, _, h => by
    obtain ⟨a, vs, e, r, n, n', q⟩ := h
    exact ⟨a, vs, e, x.keep _ _ r n (fun ps z => by cases z), x.notin r .lst n, n', Reps.mono x q⟩
  | .ref _, _, h => by
    obtain ⟨a, e, q⟩ := h
    exact ⟨a, x.get e, q⟩
  | .fn _, _, h => h
  | .cls _, _, h => h
  | .exn _ _, _, h => h
  | .scr ns, _, h => by
    obtain ⟨a, e, r⟩ := h
    refine ⟨a, e, r.imp (fun ⟨r, n, n'⟩ => ⟨x.rd r n (fun ps z => by cases z), x.no r .lst n, n'⟩) id⟩
theorem Reps.mono (x : Ext φ φ' H H') : ∀ {ps : List PV} {vs : List V}, Reps G φ η H ps vs → Reps G φ' η H' ps vs
  | [], _, h => h
  | _ :: _, _, h => by
    obtain ⟨u, us, e, r, q⟩ := h
    exact ⟨u, us, e, Rep.mono x r, Reps.mono x q⟩
end
theorem Reps.length : ∀ {ps : List PV} {vs : List V}, Reps G φ η H ps vs → ps.length = vs.length
  | [], _, h => by
    have h : _ = _ := h
    rw [h]; rfl
  | _ :: _, _, h => by
    obtain ⟨u, us, e, r, q⟩ := h
    rw [e, List.length_cons, List.length_cons, Reps.length q]
theorem Reps.get : ∀ {ps : List PV} {vs : List V} {i : Nat} {p : PV}, Reps G φ η H ps vs → ps[i]? = some p → ∃ v, vs[i]? = some v ∧ Rep G φ η H p v
  | [], _, i, _, _, e => by simp at e
  | p :: ps, _, 0, q, h, e => by
    obtain ⟨u, us, e1, r, _⟩ := h
    simp at e
    subst e e1
    exact ⟨u, rfl, r⟩
  | p :: ps, _, i + 1, q, h, e => by
    obtain ⟨u, us, e1, _, r⟩ := h
    subst e1
    obtain ⟨v, e2, r2⟩ := Reps.get (i := i) r (by simpa using e)
    exact ⟨v, by simpa using e2, r2⟩
theorem Reps.append : ∀ {ps qs : List PV} {vs ws : List V}, Reps G φ η H ps vs → Reps G φ η H qs ws → Reps G φ η H (ps ++ qs) (vs ++ ws)
  | [], _, _, _, h, q => by
    have h : _ = _ := h
    rw [h]
    exact q
  | _ :: _, _, _, _, h, q => by
    obtain ⟨u, us, e, r, t⟩ := h
    subst e
    exact ⟨u, us ++ _, rfl, r, Reps.append t q⟩
theorem Reps.take : ∀ {ps : List PV} {vs : List V} (n : Nat), Reps G φ η H ps vs → Reps G φ η H (ps.take n) (vs.take n)
  | ps, vs, 0, _ => by simp [Reps]
  | [], vs, n + 1, h => by
    have h : _ = _ := h
    rw [h]
    simp [Reps]
  | _ :: _, _, n + 1, h => by
    obtain ⟨u, us, e, r, t⟩ := h
    subst e
    exact ⟨u, us.take n, rfl, r, Reps.take n t⟩
theorem Reps.drop : ∀ {ps : List PV} {vs : List V} (n : Nat), Reps G φ η H ps vs → Reps G φ η H (ps.drop n) (vs.drop n)
  | ps, vs, 0, h => h
  | [], vs, n + 1, h => by
    have h : _ = _ := h
    rw [h]
    simp [Reps]
  | _ :: _, _, n + 1, h => by
    obtain ⟨u, us, e, r, t⟩ := h
    subst e
    exact Reps.drop n t
theorem Reps.set : ∀ {ps : List PV} {vs : List V} {p : PV} {v : V} (n : Nat), Reps G φ η H ps vs → Rep G φ η H p v → Reps G φ η H (ps.set n p) (vs.set n v)
  | [], vs, _, _, n, h, _ => by
    have h : _ = _ := h
    rw [h]
    simp [Reps]
  | _ :: _, _, _, _, 0, h, q => by
    obtain ⟨u, us, e, r, t⟩ := h
    subst e
    exact ⟨_, us, rfl, q, t⟩
  | _ :: _, _, _, _, n + 1, h, q => by
    obtain ⟨u, us, e, r, t⟩ := h
    subst e
    exact ⟨u, _, rfl, r, Reps.set n t q⟩
theorem Reps.reverse : ∀ {ps : List PV} {vs : List V}, Reps G φ η H ps vs → Reps G φ η H ps.reverse vs.reverse
  | [], _, h => by
    have h : _ = _ := h
    rw [h]
    rfl
  | _ :: _, _, h => by
    obtain ⟨u, us, e, r, t⟩ := h
    subst e
    rw [List.reverse_cons, List.reverse_cons]
    exact Reps.append (Reps.reverse t) ⟨u, [], rfl, r, rfl⟩
theorem Reps.nil_iff {vs : List V} : Reps G φ η H [] vs ↔ vs = [] := Iff.rfl
theorem Reps.one {p : PV} {v : V} (h : Rep G φ η H p v) : Reps G φ η H [p] [v] := ⟨v, [], rfl, h, rfl⟩
theorem Reps.flat : ∀ {pss : List (List PV)} {vss : List (List V)} {n : Nat} {ps : List PV} {vs : List V}, Reps G φ η H ps vs → Reps G φ η H (List.replicate n ps).flatten (List.replicate n vs).flatten
  | _, _, 0, _, _, _ => rfl
  | a, b, n + 1, _, _, h => by
    rw [List.replicate_succ, List.replicate_succ, List.flatten_cons, List.flatten_cons]
    exact Reps.append h (Reps.flat (pss := a) (vss := b) h)
/-- the environment of plain values, the slots -/
def ERep (G : Gr) (φ η : List Addr) (H : Hp) (ρ : Env) (σ : L2.St) : Prop := ρ.length = σ.length ∧ ∀ (i : Nat) (p : PV), ρ[i]? = some (some p) → ∃ v, σ[i]? = some (some v) ∧ Rep G φ η H p v
theorem ERep.mono {ρ : Env} {σ : L2.St} (x : Ext φ φ' H H') (h : ERep G φ η H ρ σ) : ERep G φ' η H' ρ σ := ⟨h.1, fun i p e => let ⟨v, e1, r⟩ := h.2 i p e; ⟨v, e1, r.mono x⟩⟩
theorem ERep.set {ρ : Env} {σ : L2.St} {i : Nat} {p : PV} {v : V} (h : ERep G φ η H ρ σ) (r : Rep G φ η H p v) : ERep G φ η H (ρ.set i (some p)) (σ.set i (some v)) := by
  refine ⟨by rw [List.length_set, List.length_set]; exact h.1, fun j q e => ?_⟩
  by_cases hj : i = j
  · subst hj
    by_cases hl : i < ρ.length
    · rw [List.getElem?_set_self hl] at e
      cases e
      exact ⟨v, by rw [List.getElem?_set_self (by rw [← h.1]; exact hl)], r⟩
    · rw [List.getElem?_eq_none (by simpa using hl)] at e; cases e
  · rw [List.getElem?_set_ne hj] at e
    rw [List.getElem?_set_ne hj]
    exact h.2 j q e
theorem ERep.forget {ρ : Env} {σ : L2.St} (i : Nat) (h : ERep G φ η H ρ σ) : ERep G φ η H (ρ.set i none) (σ.set i none) := by
  refine ⟨by rw [List.length_set, List.length_set]; exact h.1, fun j q e => ?_⟩
  by_cases hj : i = j
  · subst hj
    by_cases hl : i < ρ.length
    · rw [List.getElem?_set_self hl] at e
      cases e
    · rw [List.getElem?_eq_none (by simpa using hl)] at e; cases e
  · rw [List.getElem?_set_ne hj] at e
    rw [List.getElem?_set_ne hj]
    exact h.2 j q e
theorem ERep.wipe {ρ : Env} {σ : L2.St} (h : ERep G φ η H ρ σ) : ∀ vs : List Nat, ERep G φ η H (wipeE ρ vs) (L2.wipe σ vs)
  | [] => h
  | v :: vs => ERep.forget v (ERep.wipe h vs)
/-! ### what a run asks -/
theorem StRep.tr (h : StRep G φ η H S) {n : Nat} {a : Addr} (e : φ[n]? = some a) : ∃ o, H a = some o ∧ NT o := by
  have hn : n < S.length := by rw [← h.len]; exact (List.getElem?_eq_some_iff.mp e).1
  have q := h.objs n S[n] a (by simp [hn]) e
  cases hS : S[n] with
  | lst xs => rw [hS] at q; obtain ⟨vs, q, _⟩ := q; exact ⟨_, q, .lst⟩
  | dct kvs => rw [hS] at q; exact q.elim
theorem StRep.mem (h : StRep G φ η H S) {a : Addr} (e : a ∈ φ) : ∃ o, H a = some o ∧ NT o := by
  obtain ⟨n, hn, e⟩ := List.getElem_of_mem e
  exact h.tr (n := n) (by rw [List.getElem?_eq_getElem hn, e])
/-- a new object, not of the store -/
theorem Ext.new {p : Addr} {o : HO} (hp : H p = none) : Ext φ φ H (upd H p o) :=
  ⟨⟨[], by simp, by simp⟩, fun a u e _ _ => by rw [upd_ne (ne_of_none e hp)]; exact e, fun a u e t => ⟨u, by rw [upd_ne (ne_of_none e hp)]; exact e, t⟩⟩
theorem ORep.mono {o : PO} {a : Addr} (x : Ext φ φ' H H') (h : ORep G φ η H o a) (e : ∀ vs, H a = some (.lst vs) → H' a = some (.lst vs)) : ORep G φ' η H' o a := by
  cases o with
  | lst xs => obtain ⟨vs, q, r⟩ := h; exact ⟨vs, e vs q, r.mono x⟩
  | dct kvs => exact h
theorem StRep.new {p : Addr} {o : HO} (h : StRep G φ η H S) (hp : H p = none) : StRep G φ η (upd H p o) S :=
  ⟨fun a ha => let ⟨u, e, t⟩ := h.hid a ha; ⟨u, by rw [upd_ne (ne_of_none e hp)]; exact e, t⟩, h.nd, h.len, fun n u a e1 e2 => (h.objs n u a e1 e2).mono (.new hp) fun vs e => by rw [upd_ne (ne_of_none e hp)]; exact e, h.tabs.ext fun b u e => by rw [upd_ne (ne_of_none e hp)]; exact e⟩
/-- a new object of the store -/
theorem Ext.newS {p : Addr} {o : HO} (hp : H p = none) : Ext φ (φ ++ [p]) H (upd H p o) :=
  ⟨⟨[p], rfl, fun a ha o q => by rw [List.mem_singleton.mp ha, hp] at q; cases q⟩, fun a u e _ _ => by rw [upd_ne (ne_of_none e hp)]; exact e, fun a u e t => ⟨u, by rw [upd_ne (ne_of_none e hp)]; exact e, t⟩⟩
theorem StRep.newS {p : Addr} {xs : List PV} {us : List V} (h : StRep G φ η H S) (hp : H p = none) (r : Reps G φ η H xs us) : StRep G (φ ++ [p]) η (upd H p (.lst us)) (S ++ [.lst xs]) := by
  have np : p ∉ φ := fun z => by obtain ⟨o, e, _⟩ := h.mem z; rw [hp] at e; cases e
  refine ⟨fun a ha => let ⟨u, e, t⟩ := h.hid a ha; ⟨u, by rw [upd_ne (ne_of_none e hp)]; exact e, t⟩, ?_, by simp [h.len], fun n u a e1 e2 => ?_, h.tabs.ext fun b u e => by rw [upd_ne (ne_of_none e hp)]; exact e⟩
  · rw [List.nodup_append]
    exact ⟨h.nd, by simp, fun a ha b hb z => by rw [List.mem_singleton.mp hb] at z; rw [z] at ha; exact np ha⟩
  · by_cases hn : n < S.length
    · rw [List.getElem?_append_left hn] at e1
      rw [List.getElem?_append_left (by rw [h.len]; exact hn)] at e2
      exact (h.objs n u a e1 e2).mono (.newS hp) fun vs e => by rw [upd_ne (ne_of_none e hp)]; exact e
    · rw [List.getElem?_append_right (by omega)] at e1
      rw [List.getElem?_append_right (by rw [h.len]; omega)] at e2
      have z : n - S.length = 0 := by
        cases q : n - S.length with
        | zero => rfl
        | succ k => rw [q] at e1; simp at e1
      rw [h.len, z] at e2
      rw [z] at e1
      simp at e1 e2
      subst e1 e2
      exact ⟨us, upd_same, r.mono (.newS hp)⟩
/-- an object of the store is changed -/
theorem Ext.put {n : Nat} {a : Addr} {us : List V} (e : φ[n]? = some a) : Ext φ φ H (upd H a (.lst us)) :=
  ⟨⟨[], by simp, by simp⟩, fun b u q nb _ => by rw [upd_ne (fun z => nb (by rw [z]; exact List.mem_of_getElem? e))]; exact q, fun b u q t => by
    by_cases z : b = a
    · subst z; exact ⟨_, upd_same, .lst⟩
    · exact ⟨u, by rw [upd_ne z]; exact q, t⟩⟩
theorem StRep.put {n : Nat} {a : Addr} {xs ys : List PV} {us : List V} (h : StRep G φ η H S) (e : φ[n]? = some a) (e0 : S[n]? = some (.lst ys)) (r : Reps G φ η H xs us) : StRep G φ η (upd H a (.lst us)) (S.set n (.lst xs)) := by
  have nt : ∀ b ps, H b = some (.tbl ps) → b ≠ a := fun b ps q z => by
    obtain ⟨vs, q2, _⟩ := h.objs n _ a e0 e
    rw [← z, q] at q2; cases q2
  refine ⟨fun b hb => let ⟨u, q, t⟩ := h.hid b hb; (Ext.put (us := us) (φ := φ) e).there b u q t, h.nd, by rw [List.length_set]; exact h.len, fun m u b e1 e2 => ?_, fun p hp => ?_⟩
  · by_cases z : n = m
    · subst z
      rw [e] at e2; cases e2
      have hn : n < S.length := (List.getElem?_eq_some_iff.mp e0).1
      rw [List.getElem?_set_self hn] at e1
      cases e1
      exact ⟨us, upd_same, r.mono (.put e)⟩
    · rw [List.getElem?_set_ne z] at e1
      have nb : b ≠ a := fun q => by
        subst q
        have h1 := (List.getElem?_eq_some_iff.mp e)
        have h2 := (List.getElem?_eq_some_iff.mp e2)
        exact z ((List.getElem_inj h.nd).mp (h1.2.trans h2.2.symm))
      exact (h.objs m u b e1 e2).mono (.put e) fun vs q => by rw [upd_ne nb]; exact q
  · obtain ⟨ps, h1, h2, h3⟩ := h.tabs p hp
    refine ⟨ps, by rw [upd_ne (nt _ ps h1)]; exact h1, h2, fun pos cv hc => ?_⟩
    obtain ⟨c, q1, q2⟩ := h3 pos cv hc
    refine ⟨c, q1, ?_⟩
    rw [upd_ne]
    · exact q2
    · intro z
      obtain ⟨vs, q3, _⟩ := h.objs n _ a e0 e
      rw [z, q3] at q2; cases q2
/-- how an error lies: its class, its own dict's address -/
def XRep (G : Gr) (φ η : List Addr) (H : Hp) (c : XC) (vs : List PV) (cls : Value) (od : Option Addr) : Prop := ∃ a, G.mg c.py = some (.ref a) ∧ cls = .ref a ∧ G.okX c = true ∧ od = none
/-- what a result is worth, from the store φ and the heap H on -/
def Post {α β : Type} (G : Gr) (rel : List Addr → List Addr → Hp → α → β → Prop) (E : XK) (φ η : List Addr) (H : Hp) (Q : β → Hp → Prop) : R α → Prop
  | .ok v S' => ∀ φ' H' u, Ext φ φ' H H' → StRep G φ' η H' S' → rel φ' η H' v u → Q u H'
  | .exc c vs S' => ∀ φ' H' cls od, Ext φ φ' H H' → StRep G φ' η H' S' → XRep G φ' η H' c vs cls od → E cls od H'
  | .err => False
section
variable {α β α' β' : Type} {rel : List Addr → List Addr → Hp → α → β → Prop} {rel' : List Addr → List Addr → Hp → α' → β' → Prop} {E : XK} {Q : β → Hp → Prop}
theorem Post.ext {r : R α} (h : Post G rel E φ η H Q r) (x : Ext φ φ' H H') : Post G rel E φ' η H' Q r := by
  cases r with
  | ok v S' => exact fun φ2 H2 u y hs hr => h φ2 H2 u (x.trans y) hs hr
  | exc c vs S' => exact fun φ2 H2 cls od y hs hr => h φ2 H2 cls od (x.trans y) hs hr
  | err => exact h
theorem Post.bind {r : R α'} {f : α' → PSt → R α} {Q' : β' → Hp → Prop} (h : Post G rel E φ η H Q (r.bind f))
    (hk : ∀ v S1 φ1 H1 u, Ext φ φ1 H H1 → StRep G φ1 η H1 S1 → rel' φ1 η H1 v u → Post G rel E φ1 η H1 Q (f v S1) → Q' u H1) : Post G rel' E φ η H Q' r := by
  cases r with
  | ok v S' => exact fun φ1 H1 u x hs hr => hk v S' φ1 H1 u x hs hr (Post.ext h x)
  | exc c vs S' => exact h
  | err => exact h
theorem Post.ok {v : α} {u : β} {S : PSt} (h : Post G rel E φ η H Q (.ok v S)) (hs : StRep G φ η H S) (hr : rel φ η H v u) : Q u H := h φ H u (.refl φ H) hs hr
theorem Post.no (h : Post G rel E φ η H Q (.err)) : False := h
theorem Post.mono {r : R α} {Q' : β → Hp → Prop} (h : Post G rel E φ η H Q r) (hq : ∀ u H', Q u H' → Q' u H') : Post G rel E φ η H Q' r := by
  cases r with
  | ok v S' => exact fun φ1 H1 u x hs hr => hq _ _ (h φ1 H1 u x hs hr)
  | exc c vs S' => exact h
  | err => exact h
end
abbrev relV (G : Gr) : List Addr → List Addr → Hp → PV → V → Prop := fun φ η H p v => Rep G φ η H p v
abbrev relVs (G : Gr) : List Addr → List Addr → Hp → List PV → List V → Prop := fun φ η H p v => Reps G φ η H p v
abbrev relB : List Addr → List Addr → Hp → Bool → Bool → Prop := fun _ _ _ a b => a = b
/-- a plain reading of an expression, of a test, of arguments -/
def TEv (G : Gr) (E : XK) (r : Env → PSt → R PV) : TE := fun σ H Q => ∃ φ η ρ S, StRep G φ η H S ∧ ERep G φ η H ρ σ ∧ Post G (relV G) E φ η H Q (r ρ S)
def TTv (G : Gr) (E : XK) (r : Env → PSt → R Bool) : TT := fun σ H Q => ∃ φ η ρ S, StRep G φ η H S ∧ ERep G φ η H ρ σ ∧ Post G relB E φ η H Q (r ρ S)
def TAv (G : Gr) (E : XK) (r : Env → PSt → R (List PV)) : TA := fun σ H Q => ∃ φ η ρ S, StRep G φ η H S ∧ ERep G φ η H ρ σ ∧ Post G (relVs G) E φ η H Q (r ρ S)
end
/-- a plain reading of what makes a new list: the list comes last -/
def QL (Q : VK) : List V → Hp → Prop := fun us H' => ∀ p, H' p = none → Q (.ref p) (upd H' p (.lst us))
def TLv (G : Gr) (E : XK) (r : Env → PSt → R (List PV)) : TE := fun σ H Q => ∃ φ η ρ S, StRep G φ η H S ∧ ERep G φ η H ρ σ ∧ Post G (relVs G) E φ η H (QL Q) (r ρ S)
/-- what is hidden besides was not there -/
def HExt (H : Hp) (η η' : List Addr) : Prop := ∀ a ∈ η', a ∈ η ∨ H a = none
theorem HExt.refl (H : Hp) (η : List Addr) : HExt H η η := fun _ h => .inl h
theorem HExt.no {H : Hp} {η η' : List Addr} {a : Addr} {o : HO} (h : HExt H η η') (e : H a = some o) (n : a ∉ η) : a ∉ η' := fun z => by
  rcases h a z with z | z
  · exact n z
  · rw [e] at z; cases z
/-- the heap may grow, what is hidden may change too -/
structure ExtW (η φ φ' : List Addr) (H H' : Hp) : Prop where
  pre : ∃ new, φ' = φ ++ new ∧ ∀ a ∈ new, ∀ o, H a = some o → ¬ NT o
  keep : ∀ a o, H a = some o → a ∉ φ → a ∉ η → (∀ ps, o ≠ .tbl ps) → H' a = some o
theorem Ext.w {η φ φ' : List Addr} {H H' : Hp} (x : Ext φ φ' H H') : ExtW η φ φ' H H' := ⟨x.pre, fun a o e n _ t => x.keep a o e n t⟩
theorem ExtW.notin {η φ φ' : List Addr} {H H' : Hp} (x : ExtW η φ φ' H H') {a : Addr} {o : HO} (h : H a = some o) (t : NT o) (n : a ∉ φ) : a ∉ φ' := by
  obtain ⟨n1, e1, f1⟩ := x.pre
  rw [e1]
  intro hm
  rcases List.mem_append.mp hm with h' | h'
  · exact n h'
  · exact f1 a h' o h t
theorem ExtW.trans {η φ φ' φ'' : List Addr} {H H' H'' : Hp} (x : ExtW η φ φ' H H') (th : ∀ a o, H a = some o → NT o → ∃ o', H' a = some o' ∧ NT o') (y : Ext φ' φ'' H' H'') : ExtW η φ φ'' H H'' := by
  obtain ⟨n1, e1, f1⟩ := x.pre
  obtain ⟨n2, e2, f2⟩ := y.pre
  refine ⟨⟨n1 ++ n2, by rw [e2, e1, List.append_assoc], fun a ha o q t => ?_⟩, fun a o e na nη nt => y.keep a o (x.keep a o e na nη nt) (x.notin e nt na) nt⟩
  rcases List.mem_append.mp ha with h | h
  · exact f1 a h o q t
  · obtain ⟨o', z, t'⟩ := th a o q t
    exact f2 a h o' z t'
theorem ExtW.get {η φ φ' : List Addr} {H H' : Hp} (x : ExtW η φ φ' H H') {n : Nat} {a : Addr} (h : φ[n]? = some a) : φ'[n]? = some a := by
  obtain ⟨n1, e1, f1⟩ := x.pre
  rw [e1, List.getElem?_append_left (List.getElem?_eq_some_iff.mp h).1]
  exact h
theorem ExtW.rd {η φ φ' : List Addr} {H H' : Hp} (x : ExtW η φ φ' H H') {a : Addr} {u : HO} (h : Rd H a u) (n : a ∉ φ) (n' : a ∉ η) (nt : ∀ ps, u ≠ .tbl ps) : Rd H' a u := by
  rcases h with h | ⟨o, h⟩
  · exact .inl (x.keep a u h n n' nt)
  · exact .inr ⟨o, x.keep a _ h n n' fun ps z => by cases z⟩
section
variable {G : Gr} {φ φ' η η' : List Addr} {H H' : Hp}
mutual
theorem Rep.wmono (x : ExtW η φ φ' H H') (y : HExt H η η') : ∀ {p : PV} {v : V}, Rep G φ η H p v → Rep G φ' η' H' p v
  | .non, _, h => h
  | .bl _, _, h => h
  | .int _, _, h => h
  | .str _, _, h => h
  | .tup xs, _, h => by
    obtain ⟨a, vs, e, r, n, n', q⟩ := h
    exact ⟨a, vs, e, x.keep _ _ r n n' (fun ps z => by cases z), x.notin r .tup n, y.no r n', Reps.wmono x y q⟩
  | .lst xs, _, h => by
    obtain ⟨a, vs, e, r, n, n', q⟩ := h
    exact ⟨a, vs, e, x.keep _ _ r n n' (fun ps z => by cases z), x.notin r .lst n, y.no r n', Reps.wmono x y q⟩
  | .ref _, _, h => by
    obtain ⟨a, e, q⟩ := h
    exact ⟨a, x.get e, q⟩
  | .fn _, _, h => h
  | .cls _, _, h => h
  | .exn _ _, _, h => h
  | .scr ns, _, h => by
    obtain ⟨a, e, r⟩ := h
    exact ⟨a, e, r.imp (fun ⟨r, n, n'⟩ => let ⟨o, q, t⟩ := Rd.some r .lst; ⟨x.rd r n n' (fun ps z => by cases z), x.notin q t n, y.no q n'⟩) id⟩
theorem Reps.wmono (x : ExtW η φ φ' H H') (y : HExt H η η') : ∀ {ps : List PV} {vs : List V}, Reps G φ η H ps vs → Reps G φ' η' H' ps vs
  | [], _, h => h
  | _ :: _, _, h => by
    obtain ⟨u, us, e, r, q⟩ := h
    exact ⟨u, us, e, Rep.wmono x y r, Reps.wmono x y q⟩
end
theorem ERep.wmono {ρ : Env} {σ : L2.St} (x : ExtW η φ φ' H H') (y : HExt H η η') (h : ERep G φ η H ρ σ) : ERep G φ' η' H' ρ σ := ⟨h.1, fun i p e => let ⟨v, e1, r⟩ := h.2 i p e; ⟨v, e1, r.wmono x y⟩⟩
end
section
variable {G : Gr} {φ η η' : List Addr} {H : Hp}
mutual
theorem Rep.hmono (x : HExt H η η') : ∀ {p : PV} {v : V}, Rep G φ η H p v → Rep G φ η' H p v
  | .non, _, h => h
  | .bl _, _, h => h
  | .int _, _, h => h
  | .str _, _, h => h
  | .tup xs, _, h => by
    obtain ⟨a, vs, e, r, n, n', q⟩ := h
    exact ⟨a, vs, e, r, n, x.no r n', Reps.hmono x q⟩
  | .lst xs, _, h => by
    obtain ⟨a, vs, e, r, n, n', q⟩ := h
    exact ⟨a, vs, e, r, n, x.no r n', Reps.hmono x q⟩
  | .ref _, _, h => h
  | .fn _, _, h => h
  | .cls _, _, h => h
  | .exn _ _, _, h => h
  | .scr ns, _, h => by
    obtain ⟨a, e, r⟩ := h
    exact ⟨a, e, r.imp (fun ⟨r, n, n'⟩ => ⟨r, n, let ⟨_, q, _⟩ := Rd.some r .lst; x.no q n'⟩) id⟩
theorem Reps.hmono (x : HExt H η η') : ∀ {ps : List PV} {vs : List V}, Reps G φ η H ps vs → Reps G φ η' H ps vs
  | [], _, h => h
  | _ :: _, _, h => by
    obtain ⟨u, us, e, r, q⟩ := h
    exact ⟨u, us, e, Rep.hmono x r, Reps.hmono x q⟩
end
end
/-- an iterator J gives the items -/
def SrcOk (G : Gr) (J : It) (its : List PV) (g : Gd) (φ0 η : List Addr) (H0 : Hp) : Prop := ∀ φ η' H S, HExt H0 η η' → ExtW η φ0 φ H0 H → StRep G φ η' H S → gdOk g S →
  (∀ i, i < its.length → J.go i H ∧ ∀ x H2, J.yld i H x H2 → Ext φ φ H H2 ∧ StRep G φ η' H2 S ∧ ∃ p, its[i]? = some p ∧ Rep G φ η' H2 p x) ∧ J.stop its.length H
abbrev relI (G : Gr) : List Addr → List Addr → Hp → List PV × Gd → It → Prop := fun φ η H p J => SrcOk G J p.1 p.2 φ η H
def TIv (G : Gr) (E : XK) (r : Env → PSt → R (List PV × Gd)) : TI := fun σ H Rr => ∃ φ η ρ S, StRep G φ η H S ∧ ERep G φ η H ρ σ ∧ Post G (relI G) E φ η H Rr (r ρ S)
def relF (G : Gr) : List Addr → List Addr → Hp → Fl → L2.St ⊕ V → Prop := fun φ η H f x => match f, x with
  | .nx ρ, .inl σ => ERep G φ η H ρ σ
  | .ret v, .inr u => Rep G φ η H v u
  | _, _ => False
/-- a plain reading of a statement -/
def TSv (G : Gr) (E : XK) (r : Env → PSt → R Fl) : TS := fun D σ H => ∃ φ η ρ S, StRep G φ η H S ∧ ERep G φ η H ρ σ ∧ Post G (relF G) E φ η H (fun x H' => match x with
  | .inl σ' => D.nx σ' H'
  | .inr u => D.rt u H') (r ρ S)
/-- a def's promise -/
def spOf (G : Gr) (d : Nat) (f : F) : Sp := fun vs H Q E => ∃ φ η S ps, StRep G φ η H S ∧ Reps G φ η H ps vs ∧ Post G (relV G) E φ η H Q (run G.T d f ps S) ∧ ps.length = (G.T f).np
end Pw
/-! Pw4: which plain text is a given piece of Python's syntax (a Bool, decided by the kernel). -/
namespace Pw
open PySem PySem.Spec PyProof.Rows L2
/-- what the checker knows of a row: its defs, its error classes, the built-in names that its module leaves free -/
structure Row where
  okF : F → Bool
  okX : XC → Bool
  bn : List PySem.Str
  lam : Bool := false
/-- within a lambda -/
def Row.in (W : Row) : Row := { W with lam := true }
def visB (sc : Scope) (x : PySem.Str) : Bool := match sc.names.lookup x with
  | some .local => true
  | some .cell => true
  | some .free => true
  | _ => false
def locB (sc : Scope) (x : PySem.Str) : Bool := match sc.names.lookup x with
  | some .local => true
  | some .cell => true
  | _ => false
def lclB (sc : Scope) (x : PySem.Str) : Bool := match sc.names.lookup x with
  | some .local => true
  | _ => false
def glB (sc : Scope) (x : PySem.Str) : Bool := match sc.names.lookup x with
  | some .globalImplicit => true
  | _ => false
def nmOk (x : PySem.Str) : Bool := !(x == ("__debug__" : PySem.Str)) && !(x == ("__classdict__" : PySem.Str)) && !decide (x = ("__name__" : PySem.Str))
def okE : Expr → Bool
  | .BoolOp .. => true
  | .BinOp .. => true
  | .UnaryOp .. => true
  | .IfExp .. => true
  | .ListComp .. => true
  | .Compare .. => true
  | .Call .. => true
  | .Constant .. => true
  | .Attribute .. => true
  | .Subscript .. => true
  | .Name .. => true
  | .List .. => true
  | .Tuple .. => true
  | _ => false
def notCall : Expr → Bool
  | .Call .. => false
  | _ => true
def opB : BOp → Operator → Bool
  | .add, .Add => true | .sub, .Sub => true | .mul, .Mult => true | .fdiv, .FloorDiv => true | .mod, .Mod => true | .pow, .Pow => true
  | _, _ => false
def opC : COp → CmpOp → Bool
  | .eq, .Eq => true | .ne, .NotEq => true | .lt, .Lt => true | .le, .LtE => true | .gt, .Gt => true | .ge, .GtE => true | .is, .Is => true | .isnot, .IsNot => true | .inn, .In => true | .notin, .NotIn => true
  | _, _ => false
def Ty.py : Ty → PySem.Str
  | .int => "int" | .bool => "bool" | .str => "str" | .tuple => "tuple" | .list => "list"
def Blt.py : Blt → PySem.Str
  | .len => "len" | .abs => "abs" | .int => "int" | .str => "str" | .tuple => "tuple" | .min2 => "min" | .max2 => "max" | .sum => "sum" | .sorted => "sorted" | .bool => "bool"
def Blt.ar : Blt → Nat
  | .min2 => 2 | .max2 => 2 | _ => 1
def Mth.py : Mth → PySem.Str
  | .split => "split" | .join => "join" | .get => "get" | .upper => "upper" | .index => "index" | .count => "count"
def Mth.ar : Mth → Nat
  | .upper => 0 | _ => 1
def bltB (W : Row) (sc : Scope) (x y : PySem.Str) : Bool := decide (x = y) && glB sc x && W.bn.contains x && nmOk x
mutual
/-- the slots of a target -/
def Tg.slots : Tg → List Nat
  | .nm i => [i]
  | .tp ts => Tg.slotss ts
def Tg.slotss : List Tg → List Nat
  | [] => []
  | t :: ts => t.slots ++ Tg.slotss ts
end
def isTp : Tg → Bool
  | .tp _ => true
  | _ => false
/-- zip and enumerate ask for a target of several names -/
def forTp : PXr → Bool
  | .zip .. => true
  | .enum .. => true
  | _ => false
def srcB (t : Tg) (s : PXr) : Bool := !forTp s || isTp t
def PXs.len : PXs → Nat
  | .nil => 0
  | .cons _ r => r.len + 1
mutual
def mT (N : List PySem.Str) (sc : Scope) : Tg → Expr → Bool
  | .nm i, e => (match e with
    | .Name x _ => decide (N[i]? = some x) && locB sc x
    | _ => false)
  | .tp ts, e => (match e with
    | .Tuple es _ _ => mTs N sc ts es
    | _ => false)
def mTs (N : List PySem.Str) (sc : Scope) : List Tg → List Expr → Bool
  | [], es => es.isEmpty
  | t :: ts, es => (match es with
    | e :: r => mT N sc t e && mTs N sc ts r
    | [] => false)
end
/-- the names of a comprehension's block, with their places -/
def ownN (N : List PySem.Str) (own : List Nat) : List (PySem.Str × Nat) := own.map fun i => ((N[i]?).getD "", i)
mutual
def mE (W : Row) (N : List PySem.Str) (sc : Scope) : PX → Expr → Bool
  | .var i, e => (match e with
    | .Name x _ => decide (N[i]? = some x) && visB sc x && nmOk x
    | _ => false)
  | .cst v, e => (match e with
    | .Constant c _ _ => (match v, c with
      | .non, .none => true
      | .bl a, .bool b => decide (a = b)
      | .int a, .int b => decide (a = b)
      | .str a, .str b => decide (a = b) && PyData.strOk a && decide (a.length ≤ 100000)
      | _, _ => false)
    | _ => false)
  | .fn f, e => (match e with
    | .Name x _ => decide (x = f.py) && glB sc x && W.okF f && nmOk x
    | _ => false)
  | .xcls c, e => (match e with
    | .Name x _ => decide (x = c.py) && glB sc x && W.okX c && nmOk x
    | _ => false)
  | .mw, e => (match e with
    | .Name x _ => decide (x = "MOST_WIDE") && glB sc x && nmOk x
    | _ => false)
  | .tup es, e => (match e with
    | .Tuple r _ _ => mEs W N sc es r && decide (es.len ≤ 1000)
    | _ => false)
  | .fl l, e => mL W N sc l e
  | .nl l, e => mL W N sc l e
  | .bin op a b, e => (match e with
    | .BinOp x o y _ => opB op o && mE W N sc a x && mE W N sc b y
    | _ => false)
  | .neg a, e => (match e with
    | .UnaryOp .USub x _ => mE W N sc a x
    | _ => false)
  | .not a, e => (match e with
    | .UnaryOp .Not x _ => mE W N sc a x
    | _ => false)
  | .cmp op a b, e => (match e with
    | .Compare x [o] [y] _ => opC op o && !behindInMarks o y && mE W N sc a x && mE W N sc b y
    | _ => false)
  | .chain o1 o2 a b c, e => (match e with
    | .Compare x [p1, p2] [y, z] _ => opC o1 p1 && opC o2 p2 && !lastMarks [p1, p2] [y, z] && mE W N sc a x && mE W N sc b y && mE W N sc c z
    | _ => false)
  | .and a b, e => (match e with
    | .BoolOp .And (x :: y :: r) pos => mE W N sc a x && (match r with
      | [] => mE W N sc b y
      | z :: r => mE W N sc b (.BoolOp .And (y :: z :: r) pos))
    | _ => false)
  | .or a b, e => (match e with
    | .BoolOp .Or (x :: y :: r) pos => mE W N sc a x && (match r with
      | [] => mE W N sc b y
      | z :: r => mE W N sc b (.BoolOp .Or (y :: z :: r) pos))
    | _ => false)
  | .ife c a b, e => (match e with
    | .IfExp x y z _ => mE W N sc c x && mE W N sc a y && mE W N sc b z
    | _ => false)
  | .idx a i, e => (match e with
    | .Subscript x y _ => okE y && mE W N sc a x && mE W N sc i y
    | _ => false)
  | .sl a lo hi, e => (match e with
    | .Subscript x (.Slice (some y) (some z) none _) _ => mE W N sc a x && mE W N sc lo y && mE W N sc hi z
    | _ => false)
  | .slf a lo, e => (match e with
    | .Subscript x (.Slice (some y) none none _) _ => mE W N sc a x && mE W N sc lo y
    | _ => false)
  | .slt a hi, e => (match e with
    | .Subscript x (.Slice none (some z) none _) _ => mE W N sc a x && mE W N sc hi z
    | _ => false)
  | .rev a, e => (match e with
    | .Subscript x (.Slice none none (some (.UnaryOp .USub (.Constant (.int 1) _ _) _)) _) _ => mE W N sc a x
    | _ => false)
  | .call f es, e => (match e with
    | .Call (.Name x _) r [] _ => decide (x = f.py) && glB sc x && W.okF f && nmOk x && mEs W N sc es r
    | _ => false)
  | .callv g es, e => (match e with
    | .Call (.Name x p) r [] _ => mE W N sc g (.Name x p) && visB sc x && !r.isEmpty && mEs W N sc es r
    | _ => false)
  | .blt b es, e => (match e with
    | .Call (.Name x _) r [] _ => bltB W sc x b.py && decide (r.length = b.ar) && mEs W N sc es r
    | _ => false)
  | .isi a t, e => (match e with
    | .Call (.Name x _) [y, .Name z _] [] _ => bltB W sc x "isinstance" && bltB W sc z t.py && okE y && mE W N sc a y
    | _ => false)
  | .isx a c, e => false
  | .mth m a es, e => (match e with
    | .Call (.Attribute x n ap) r [] p => decide (n = m.py) && (ap.endLine == p.line) && okE x && notCall x && decide (r.length = m.ar) && decide (m = .split ∨ m = .join) && mE W N sc a x && mEs W N sc es r
    | _ => false)
  | .sset _, _ => false
  | .err a, e => (match e with
    | .Call (.Name x _) [.Lambda pr b ls _] [] _ => decide (x = "_law_error") && glB sc x && nmOk x && LamX.lamSB sc ls && (match pr with
      | ⟨[], [], none, [], [], none, []⟩ => true
      | _ => false) && !W.lam && mE W.in N ls a b
    | _ => false)
def mL (W : Row) (N : List PySem.Str) (sc : Scope) : PXl → Expr → Bool
  | .disp es, e => (match e with
    | .List r _ => mEs W N sc es r && decide (es.len ≤ 1000)
    | _ => false)
  | .lr1 a, e => (match e with
    | .Call (.Name x _) [.Call (.Name y _) [z] [] _] [] _ => bltB W sc x "list" && bltB W sc y "range" && okE z && mE W N sc a z
    | _ => false)
  | .lr2 a b, e => (match e with
    | .Call (.Name x _) [.Call (.Name y _) [z, u] [] _] [] _ => bltB W sc x "list" && bltB W sc y "range" && okE z && okE u && mE W N sc a z && mE W N sc b u
    | _ => false)
  | .ofl a, e => (match e with
    | .Call (.Name x _) [y] [] _ => bltB W sc x "list" && okE y && mE W N sc a y
    | _ => false)
  | .cat a b, e => (match e with
    | .BinOp x .Add y _ => mE W N sc a x && mE W N sc b y
    | _ => false)
  | .rep a b, e => (match e with
    | .BinOp x .Mult y _ => mE W N sc a x && mE W N sc b y
    | _ => false)
  | .comp own t s c k, e => (match e with
    | .ListComp elt [⟨tg, it, ifs, 0⟩] scope _ => srcB t s && (t.slots.all fun i => own.contains i) && mR W N sc s it && blkC N sc scope (ownN N own) && mT N scope t tg && (match ifs with
      | [] => (match c with
        | .cst (.bl true) => true
        | _ => false)
      | [y] => okE y && mE W N (relS scope sc) c y
      | _ => false) && mE W N (relS scope sc) k elt
    | _ => false)
  | .comp2 own t s own2 t2 s2 c k, e => (match e with
    | .ListComp elt [⟨tg, it, [], 0⟩, ⟨tg2, it2, ifs, 0⟩] scope _ => srcB t s && srcB t2 s2 && (t.slots.all fun i => own.contains i) && (t2.slots.all fun i => own2.contains i) && mR W N sc s it && blkC N sc scope (ownN N own) && mT N scope t tg && (own2.all fun i => own.contains i) && mR W N (relS scope sc) s2 it2 && mT N scope t2 tg2 && (match ifs with
      | [] => (match c with
        | .cst (.bl true) => true
        | _ => false)
      | [y] => okE y && mE W N (relS scope sc) c y
      | _ => false) && mE W N (relS scope sc) k elt
    | _ => false)
def mEs (W : Row) (N : List PySem.Str) (sc : Scope) : PXs → List Expr → Bool
  | .nil, es => es.isEmpty
  | .cons a r, es => (match es with
    | e :: t => okE e && mE W N sc a e && mEs W N sc r t
    | [] => false)
def mR (W : Row) (N : List PySem.Str) (sc : Scope) : PXr → Expr → Bool
  | .val a, e => okE e && mE W N sc a e
  | .rng a, e => (match e with
    | .Call (.Name x _) [y] [] _ => bltB W sc x "range" && okE y && mE W N sc a y
    | _ => false)
  | .rng2 a b, e => (match e with
    | .Call (.Name x _) [y, z] [] _ => bltB W sc x "range" && okE y && okE z && mE W N sc a y && mE W N sc b z
    | _ => false)
  | .rng3 a b c, e => (match e with
    | .Call (.Name x _) [y, z, u] [] _ => bltB W sc x "range" && okE y && okE z && okE u && mE W N sc a y && mE W N sc b z && mE W N sc c u
    | _ => false)
  | .zip a b, e => (match e with
    | .Call (.Name x _) [y, z] [] _ => bltB W sc x "zip" && okE y && okE z && mE W N sc a y && mE W N sc b z
    | _ => false)
  | .enum a, e => (match e with
    | .Call (.Name x _) [y] [] _ => bltB W sc x "enumerate" && okE y && mE W N sc a y
    | _ => false)
end
/-- a pair (or three) of names that is stored without a tuple, as CPython swaps -/
def parB (sc : Scope) (ts vs : List Expr) : Bool :=
  (decide (ts.length = 2) || decide (ts.length = 3)) && decide (vs.length = ts.length) &&
    (ts.all fun t => match t with
      | .Name id pos => lclB sc id && (pos.line == (ts.head?.map (·.pos.line)).getD 0)
      | _ => false) && !vs.all (foldedForSure 8) && !vs.all (constantsAlone 8)
/-- a tuple's target and a tuple that goes by a tuple -/
def tupB (sc : Scope) (ts vs : List Expr) : Bool :=
  decide (vs.length ≠ ts.length) || !(decide (ts.length = 2) || decide (ts.length = 3)) ||
    (ts.any fun t => match t with
      | .Name id _ => !lclB sc id
      | _ => true) || vs.all (foldedForSure 8)
def asgB (sc : Scope) (t v : Expr) : Bool := match t, v with
  | .Tuple ts _ _, .Tuple vs _ _ => tupB sc ts vs
  | .List _ _, _ => false
  | _, _ => true
/-- names, several -/
def mNs (N : List PySem.Str) (sc : Scope) : List Nat → List Expr → Bool
  | [], es => es.isEmpty
  | i :: is, es => (match es with
    | .Name x _ :: r => decide (N[i]? = some x) && lclB sc x && mNs N sc is r
    | _ => false)
/-- a comprehension's list that is stored at once -/
def swpB (sc : Scope) (line : Nat) (x : PySem.Str) : Expr → Bool
  | .ListComp _ _ s p => lclB sc x && (line == p.line) && !(s.names.any fun (n, k) => n == x && (k == .local || k == .cell))
  | _ => false
/-- the classes that take a text alone -/
def plainX : XC → Bool
  | .TooMany => false
  | .InvalidText => false
  | _ => true
mutual
def mS (W : Row) (N : List PySem.Str) (sc : Scope) : PS → Stmt → Bool
  | .pass, s => (match s with
    | .Pass _ => true
    | _ => false)
  | .bad, _ => true
  | .asg t e, s => (match s with
    | .Assign [tg] x _ => okE x && mT N sc t tg && mE W N sc e x && asgB sc tg x
    | _ => false)
  | .par ts es, s => (match s with
    | .Assign [.Tuple tg _ _] (.Tuple x _ _) _ => mNs N sc ts tg && mEs W N sc es x && parB sc tg x && decide (ts.Nodup) && decide (ts.length = 2 ∨ ts.length = 3) && decide (es.len = ts.length)
    | _ => false)
  | .setI o i e, s => (match s with
    | .Assign [.Subscript x y _] z _ => okE y && okE z && okE x && mE W N sc o x && mE W N sc i y && mE W N sc e z && (match z with
      | .ListComp .. => false
      | _ => true)
    | _ => false)
  | .setI2 o i j a b, s => (match s with
    | .Assign [.Tuple [.Subscript x y _, .Name n _] _ _] (.Tuple [u, v] _ _) _ => okE x && okE y && okE u && okE v && mE W N sc o x && mE W N sc i y && decide (N[j]? = some n) && locB sc n && mE W N sc a u && mE W N sc b v
    | _ => false)
  | .aug i op e, s => (match s with
    | .AugAssign (.Name x _) o y _ => decide (N[i]? = some x) && locB sc x && opB op o && decide (op = .add) && mE W N sc e y
    | _ => false)
  | .app o e, s => (match s with
    | .Expr (.Call (.Attribute x n ap) [y] [] p) _ => decide (n = "append") && (ap.endLine == p.line) && (match x with
      | .Name .. => true
      | _ => false) && okE y && mE W N sc o x && mE W N sc e y
    | _ => false)
  | .ex e, s => (match s with
    | .Expr x _ => (match x with
      | .Call .. => true
      | _ => false) && mE W N sc e x
    | _ => false)
  | .ret e, s => (match s with
    | .Return (some x) _ => okE x && mE W N sc e x
    | _ => false)
  | .raise c es, s => (match s with
    | .Raise (some (.Call (.Name x _) r [] _)) none _ => decide (x = c.py) && glB sc x && W.okX c && nmOk x && plainX c && (match es with
        | .nil => true
        | _ => false) && (match r with
        | [.Constant (.str _) _ _] => true
        | _ => false)
    | _ => false)
  | .ifs c a b, s => (match s with
    | .If x y z _ => okE x && mE W N sc c x && mSs W N sc a y && mSs W N sc b z
    | _ => false)
  | .whl c b, s => (match s with
    | .While x y [] _ => okE x && mE W N sc c x && mSs W N sc b y
    | _ => false)
  | .for_ t r b, s => (match s with
    | .For tg it y [] _ => srcB t r && okE it && mT N sc t tg && mR W N sc r it && mSs W N sc b y
    | _ => false)
def mSs (W : Row) (N : List PySem.Str) (sc : Scope) : PSs → List Stmt → Bool
  | .nil, ss => ss.isEmpty
  | .cons a r, ss => (match ss with
    | s :: t => mS W N sc a s && mSs W N sc r t
    | [] => false)
end
end Pw
/-! Pw5: the operators of the plain interpreter are those of the machine. -/
namespace Pw
open PySem PySem.Spec PyProof.Rows L2
theorem lim_eq : sizeLine = LIM := sizeLine_eq
section
variable {G : Gr} {X : Cx} {φ η : List Addr} {H : Hp} {S : PSt}
/-- a new object of the heap that is not of the store -/
theorem rep_newL {p : Addr} {xs : List PV} {us : List V} (hs : StRep G φ η H S) (hp : H p = none) (r : Reps G φ η H xs us) : Rep G φ η (upd H p (.lst us)) (.lst xs) (.ref p) :=
  ⟨p, us, rfl, upd_same, fun z => (by obtain ⟨o, e, _⟩ := hs.mem z; rw [hp] at e; cases e), fun z => (by obtain ⟨o, e, _⟩ := hs.hid p z; rw [hp] at e; cases e), r.mono (.new hp)⟩
theorem rep_newT {p : Addr} {xs : List PV} {us : List V} (hs : StRep G φ η H S) (hp : H p = none) (r : Reps G φ η H xs us) : Rep G φ η (upd H p (.tup us)) (.tup xs) (.ref p) :=
  ⟨p, us, rfl, upd_same, fun z => (by obtain ⟨o, e, _⟩ := hs.mem z; rw [hp] at e; cases e), fun z => (by obtain ⟨o, e, _⟩ := hs.hid p z; rw [hp] at e; cases e), r.mono (.new hp)⟩
/-- a list that is read -/
theorem asList_rep {a : PV} {xs : List PV} {x : V} (hs : StRep G φ η H S) (r : Rep G φ η H a x) (e : asList S a = some xs) : ∃ l us, x = .ref l ∧ H l = some (.lst us) ∧ Reps G φ η H xs us := by
  cases a with
  | lst ys =>
    have e : some ys = some xs := e
    cases e
    obtain ⟨l, us, h1, h2, _, _, h3⟩ := r
    exact ⟨l, us, h1, h2, h3⟩
  | ref n =>
    obtain ⟨l, h1, h2⟩ := r
    unfold asList at e
    cases q : S[n]? with
    | none => simp [q] at e
    | some o =>
      cases o with
      | lst ys =>
        simp only [q, Option.some.injEq] at e
        subst e
        obtain ⟨us, h3, h4⟩ := hs.objs n _ l q h1
        exact ⟨l, us, h2, h3, h4⟩
      | dct kvs => simp [q] at e
  | _ => cases e
/-- a sequence that is read -/
theorem reps_ints : ∀ ns : List Int, Reps G φ η H (ns.map PV.int) (ns.map V.int)
  | [] => rfl
  | n :: r => ⟨.int n, r.map V.int, rfl, rfl, reps_ints r⟩
theorem asSeq_rep {a : PV} {xs : List PV} {x : V} (hs : StRep G φ η H S) (r : Rep G φ η H a x) (e : asSeq S a = some xs) : ∃ l us, x = .ref l ∧ (SqL G.K H l us ∨ H l = some (.tup us)) ∧ Reps G φ η H xs us := by
  cases a with
  | tup ys =>
    have e : some ys = some xs := e
    cases e
    obtain ⟨l, us, h1, h2, _, _, h3⟩ := r
    exact ⟨l, us, h1, .inr h2, h3⟩
  | scr ns =>
    have e : some (ns.map PV.int) = some xs := e
    cases e
    obtain ⟨l, h1, h2⟩ := r
    have h2 : SqL G.K H l (ns.map V.int) := by
      rcases h2 with ⟨h2, _⟩ | h2
      · exact .inl h2
      · rcases h2 with (h2 | ⟨o, h2⟩) | h2
        · cases h2
        · cases h2
        · exact .inr h2
    exact ⟨l, ns.map V.int, h1, .inl h2, reps_ints ns⟩
  | lst ys =>
    obtain ⟨l, us, h1, h2, h3⟩ := asList_rep hs r e
    exact ⟨l, us, h1, .inl (.inl (.inl h2)), h3⟩
  | ref n =>
    obtain ⟨l, us, h1, h2, h3⟩ := asList_rep hs r e
    exact ⟨l, us, h1, .inl (.inl (.inl h2)), h3⟩
  | _ => cases e
/-- a two-place operation of plain values is the machine's -/
def OpS (G : Gr) (X : Cx) (f : Value → Value → Sem Value) (g : PSt → PV → PV → Option PV) : Prop :=
  ∀ (φ η : List Addr) (S : PSt) (a b c : PV) (pins : List (Addr × Obj)) (s : Shared) (σ : L2.St) (H : Hp) (x y : V) (v u : Value) (Q : VK), Inv X pins σ H s → RelV x v → RelV y u → StRep G φ η H S → Rep G φ η H a x → Rep G φ η H b y → g S a b = some c →
    (∀ H' w, Ext φ φ H H' → StRep G φ η H' S → Rep G φ η H' c w → Q w H') → wpAny (model X.prog X.w) X.A (f v u) (EP X pins σ Q) X.xe s
theorem strOk_append {x y : PySem.Str} (hx : PyData.strOk x = true) (hy : PyData.strOk y = true) : PyData.strOk (x ++ y) = true := by
  unfold PyData.strOk at *
  show ((x.cps ++ y.cps).all _) = true
  rw [Array.all_append, hx, hy]
  rfl
theorem opS_add : OpS G X (binaryOp .Add) (fun S a b => binV S .add a b) := by
  intro φ η S a b c pins s σ H x y v u Q I rx ry hs ra rb e q
  have L : ∀ (a b : PV), Rep G φ η H a x → Rep G φ η H b y → (match asList S a, asList S b with
      | some xs, some ys => if xs.length + ys.length ≤ LIM then some (PV.lst (xs ++ ys)) else none
      | _, _ => none) = some c → wpAny (model X.prog X.w) X.A (binaryOp .Add v u) (EP X pins σ Q) X.xe s := fun a b ra rb e => by
    cases e1 : asList S a with
    | none => rw [e1] at e; cases e
    | some xs =>
      cases e2 : asList S b with
      | none => rw [e1, e2] at e; cases e
      | some ys =>
        rw [e1, e2] at e
        simp only at e
        split at e
        · rename_i hl
          cases e
          obtain ⟨l, us, h1, h2, h3⟩ := asList_rep hs ra e1
          obtain ⟨l', us', h1', h2', h3'⟩ := asList_rep hs rb e2
          refine op_cat pins s σ H x y v u Q I rx ry ⟨l, l', us, us', h1, h1', h2, h2', by rw [← h3.length, ← h3'.length, lim_eq]; exact hl, fun p hp => ?_⟩
          exact q _ _ (.new hp) (hs.new hp) (rep_newL hs hp (h3.append h3'))
        · cases e
  cases a with
  | int i =>
    have ra : x = .int i := ra
    cases b with
    | int j =>
      have rb : y = .int j := rb
      have e : some (PV.int (i + j)) = some c := e
      cases e
      exact op_add pins s σ H x y v u Q I rx ry ⟨i, j, ra, rb, q H _ (.refl φ H) hs rfl⟩
    | bl j =>
      have rb : y = .bl j := rb
      have e : some (PV.int (i + b2i j)) = some c := e
      cases e
      exact op_add_ib pins s σ H x y v u Q I rx ry ⟨i, j, ra, rb, q H _ (.refl φ H) hs rfl⟩
    | _ => (have e : (none : Option PV) = some c := e; cases e)
  | bl i =>
    have ra : x = .bl i := ra
    cases b with
    | int j =>
      have rb : y = .int j := rb
      have e : some (PV.int (b2i i + j)) = some c := e
      cases e
      subst ra rb
      obtain rfl : v = Value.bool i := rx
      obtain ⟨t, rfl⟩ := (show ∃ t, u = Value.int j t from ry)
      exact PySem.IntBool.add_bool_int ⟨.int _, H, I.tok _, ⟨_, rfl⟩, q H _ (.refl φ H) hs rfl⟩
    | _ => (have e : (none : Option PV) = some c := e; cases e)
  | str i =>
    obtain ⟨ra, oa⟩ := ra
    cases b with
    | str j =>
      obtain ⟨rb, ob⟩ := rb
      have e : (if i.length + j.length ≤ LIM then some (PV.str (i ++ j)) else none) = some c := e
      split at e
      · rename_i hl
        cases e
        exact op_add_str pins s σ H x y v u Q I rx ry ⟨i, j, ra, rb, by rw [lim_eq]; exact hl, q H _ (.refl φ H) hs ⟨rfl, strOk_append oa ob⟩⟩
      · cases e
    | _ => exact L (.str i) _ ⟨ra, oa⟩ rb e
  | tup xs =>
    cases b with
    | tup ys =>
      have e : (if xs.length + ys.length ≤ LIM then some (PV.tup (xs ++ ys)) else none) = some c := e
      split at e
      · rename_i hl
        cases e
        obtain ⟨l, us, h1, h2, n1, n2, h3⟩ := id ra
        obtain ⟨l', us', h1', h2', n1', n2', h3'⟩ := id rb
        refine op_catA pins s σ H x y v u Q I rx ry ⟨l, l', us, us', h1, h1', .of h2, .of h2', by rw [← h3.length, ← h3'.length, lim_eq]; exact hl, fun hz => ?_, fun _ hz => ?_, fun _ _ p hp => ?_⟩
        · subst hz
          have e0 : xs = [] := by cases xs with
            | nil => rfl
            | cons _ _ => obtain ⟨_, _, z, _⟩ := h3; cases z
          subst e0
          exact q H _ (.refl φ H) hs (by rw [← h1']; exact rb)
        · subst hz
          have e0 : ys = [] := by cases ys with
            | nil => rfl
            | cons _ _ => obtain ⟨_, _, z, _⟩ := h3'; cases z
          subst e0
          rw [List.append_nil] at q
          exact q H _ (.refl φ H) hs (by rw [← h1]; exact ra)
        · exact q _ _ (.new hp) (hs.new hp) (rep_newT hs hp (h3.append h3'))
      · cases e
    | _ => exact L _ _ ra rb e
  | _ => exact L _ _ ra rb e
theorem opS_sub : OpS G X (binaryOp .Sub) (fun S a b => binV S .sub a b) := by
  intro φ η S a b c pins s σ H x y v u Q I rx ry hs ra rb e q
  cases a with
  | int i =>
    have ra : x = .int i := ra
    cases b with
    | int j =>
      have rb : y = .int j := rb
      have e : some (PV.int (i - j)) = some c := e
      cases e
      exact op_sub pins s σ H x y v u Q I rx ry ⟨i, j, ra, rb, q H _ (.refl φ H) hs rfl⟩
    | _ => cases e
  | bl i =>
    have ra : x = .bl i := ra
    cases b with
    | int j =>
      have rb : y = .int j := rb
      have e : some (PV.int (b2i i - j)) = some c := e
      cases e
      subst ra rb
      obtain rfl : v = Value.bool i := rx
      obtain ⟨t, rfl⟩ := (show ∃ t, u = Value.int j t from ry)
      exact PySem.IntBool.sub_bool_int ⟨.int _, H, I.tok _, ⟨_, rfl⟩, q H _ (.refl φ H) hs rfl⟩
    | _ => cases e
  | _ => cases e
theorem opS_mul : OpS G X (binaryOp .Mult) (fun S a b => binV S .mul a b) := by
  intro φ η S a b c pins s σ H x y v u Q I rx ry hs ra rb e q
  cases a with
  | int i =>
    have ra : x = .int i := ra
    cases b with
    | int j =>
      have rb : y = .int j := rb
      have e : (if mulOk i j = true then some (PV.int (i * j)) else none) = some c := e
      split at e
      · rename_i hm
        cases e
        unfold mulOk at hm
        simp only [Bool.or_eq_true, decide_eq_true_eq] at hm
        rcases hm with (hm | hm) | hm
        · exact op_mul pins s σ H x y v u Q I rx ry ⟨i, j, ra, rb, .inl hm, q H _ (.refl φ H) hs rfl⟩
        · exact op_mul pins s σ H x y v u Q I rx ry ⟨i, j, ra, rb, .inr hm, q H _ (.refl φ H) hs rfl⟩
        · exact op_mulW pins s σ H x y v u Q I rx ry ⟨i, j, ra, rb, (by unfold CMulW; omega), q H _ (.refl φ H) hs rfl⟩
      · cases e
    | bl j =>
      have rb : y = .bl j := rb
      have e : some (PV.int (i * b2i j)) = some c := e
      cases e
      subst ra rb
      obtain rfl : u = Value.bool j := ry
      obtain ⟨t, rfl⟩ := (show ∃ t, v = Value.int i t from rx)
      exact PySem.IntBool.mul_int_bool ⟨.int _, H, I.tok _, ⟨_, rfl⟩, q H _ (.refl φ H) hs rfl⟩
    | _ => cases e
  | tup xs =>
    cases b with
    | int k =>
      have rb : y = .int k := rb
      have e : (if (!xs.isEmpty && decide (2 ≤ k) && decide (k ≤ 1000) && decide (xs.length ≤ 1000)) = true then some (PV.tup (List.replicate k.toNat xs).flatten) else none) = some c := e
      split at e
      · rename_i hm
        cases e
        simp only [Bool.and_eq_true, decide_eq_true_eq, Bool.not_eq_true'] at hm
        obtain ⟨⟨⟨m1, m2⟩, m3⟩, m4⟩ := hm
        obtain ⟨l, us, h1, h2, n1, n2, h3⟩ := ra
        refine op_repT pins s σ H x y v u Q I rx ry ⟨l, k, us, h1, rb, .of h2, fun z => ?_, m2, m3, by rw [← h3.length]; exact m4, fun p hp => ?_⟩
        · subst z
          cases xs with
          | nil => cases m1
          | cons _ _ => obtain ⟨_, _, z, _⟩ := h3; cases z
        · exact q _ _ (.new hp) (hs.new hp) (rep_newT hs hp (Reps.flat (pss := []) (vss := []) h3))
      · cases e
    | _ => cases e
  | lst xs =>
    cases b with
    | int k =>
      have rb : y = .int k := rb
      have e : (if (decide (-1000000 < k) && decide (k < 1000000) && decide (xs.length * k.toNat ≤ LIM)) = true then some (PV.lst (List.replicate k.toNat xs).flatten) else none) = some c := e
      split at e
      · rename_i hm
        cases e
        simp only [Bool.and_eq_true, decide_eq_true_eq] at hm
        obtain ⟨⟨m1, m2⟩, m3⟩ := hm
        obtain ⟨l, us, h1, h2, n1, n2, h3⟩ := ra
        refine op_rep pins s σ H x y v u Q I rx ry ⟨l, k, us, h1, rb, h2, by omega, by omega, by rw [← h3.length, lim_eq]; exact m3, fun p hp => ?_⟩
        exact q _ _ (.new hp) (hs.new hp) (rep_newL hs hp (Reps.flat (pss := []) (vss := []) h3))
      · cases e
    | _ => cases e
  | _ => cases e
theorem opS_fdiv : OpS G X (binaryOp .FloorDiv) (fun S a b => binV S .fdiv a b) := by
  intro φ η S a b c pins s σ H x y v u Q I rx ry hs ra rb e q
  cases a with
  | int i =>
    have ra : x = .int i := ra
    cases b with
    | int j =>
      have rb : y = .int j := rb
      have e : (if divOk j = true then some (PV.int (i / j)) else none) = some c := e
      split at e
      · rename_i hm
        cases e
        unfold divOk at hm
        simp only [Bool.and_eq_true, Bool.or_eq_true, decide_eq_true_eq] at hm
        obtain ⟨h0, hm⟩ := hm
        rcases hm with hm | hm
        · exact op_fdiv pins s σ H x y v u Q I rx ry ⟨i, j, ra, rb, ⟨h0, hm⟩, q H _ (.refl φ H) hs rfl⟩
        · exact op_fdivW pins s σ H x y v u Q I rx ry ⟨i, j, ra, rb, ⟨h0, by omega⟩, q H _ (.refl φ H) hs rfl⟩
      · cases e
    | _ => cases e
  | _ => cases e
theorem opS_mod : OpS G X (binaryOp .Mod) (fun S a b => binV S .mod a b) := by
  intro φ η S a b c pins s σ H x y v u Q I rx ry hs ra rb e q
  cases a with
  | int i =>
    have ra : x = .int i := ra
    cases b with
    | int j =>
      have rb : y = .int j := rb
      have e : (if 0 < j then some (PV.int (i % j)) else none) = some c := e
      split at e
      · rename_i hm
        cases e
        exact op_mod pins s σ H x y v u Q I rx ry ⟨i, j, ra, rb, hm, q H _ (.refl φ H) hs rfl⟩
      · cases e
    | _ => cases e
  | _ => cases e
theorem opS_pow : OpS G X (binaryOp .Pow) (fun S a b => binV S .pow a b) := by
  intro φ η S a b c pins s σ H x y v u Q I rx ry hs ra rb e q
  cases a with
  | int i =>
    have ra : x = .int i := ra
    cases b with
    | int j =>
      have rb : y = .int j := rb
      have e : (if (decide (0 ≤ j) && decide (j ≤ 1000000) && decide (i.natAbs < 2 ^ 64)) = true then some (PV.int (i ^ j.toNat)) else none) = some c := e
      split at e
      · rename_i hm
        cases e
        simp only [Bool.and_eq_true, decide_eq_true_eq] at hm
        exact op_pow pins s σ H x y v u Q I rx ry ⟨i, j, ra, rb, ⟨hm.1.1, hm.1.2, hm.2⟩, q H _ (.refl φ H) hs rfl⟩
      · cases e
    | _ => cases e
  | _ => cases e
theorem opS_bin {op : BOp} {o : Operator} (h : opB op o = true) : OpS G X (binaryOp o) (fun S a b => binV S op a b) := by
  cases op with
  | add => cases o with
    | Add => exact opS_add
    | _ => cases h
  | sub => cases o with
    | Sub => exact opS_sub
    | _ => cases h
  | mul => cases o with
    | Mult => exact opS_mul
    | _ => cases h
  | fdiv => cases o with
    | FloorDiv => exact opS_fdiv
    | _ => cases h
  | mod => cases o with
    | Mod => exact opS_mod
    | _ => cases h
  | pow => cases o with
    | Pow => exact opS_pow
    | _ => cases h
end
end Pw
/-! Pw6: the comparisons of the plain interpreter are those of the machine. -/
namespace Pw
open PySem PySem.Spec PyProof.Rows L2
mutual
def toD : PV → PyData
  | .bl b => .bool b
  | .int i => .int i
  | .str x => .str x
  | .tup xs => .tuple (toDs xs)
  | .lst xs => .list (toDs xs)
  | _ => .none
def toDs : List PV → List PyData
  | [] => []
  | x :: xs => toD x :: toDs xs
end
theorem toDs_map : ∀ xs : List PV, toDs xs = xs.map toD
  | [] => rfl
  | x :: xs => by rw [toDs, List.map_cons, toDs_map xs]
mutual
theorem depth_toD : ∀ a : PV, (toD a).depth ≤ depth a
  | .non => Nat.le_refl _
  | .bl _ => Nat.le_refl _
  | .int _ => Nat.le_refl _
  | .str _ => Nat.le_refl _
  | .tup xs => by
    have h := depths_toD xs
    simp only [toD, PyData.depth, depth]
    omega
  | .lst xs => by
    have h := depths_toD xs
    simp only [toD, PyData.depth, depth]
    omega
  | .ref _ => Nat.le_refl _
  | .fn _ => Nat.le_refl _
  | .cls _ => Nat.le_refl _
  | .exn _ _ => Nat.le_refl _
  | .scr _ => Nat.le_refl _
theorem depths_toD : ∀ xs : List PV, PyData.depthAll (toDs xs) ≤ depths xs
  | [] => Nat.le_refl _
  | x :: xs => by
    have h1 := depth_toD x
    have h2 := depths_toD xs
    simp only [toDs, PyData.depthAll, depths]
    omega
end
mutual
theorem eqv_toD : ∀ a b : PV, isData a = true → isData b = true → PyData.eqv (toD a) (toD b) = pyEq a b
  | .non, b, _, hb => by cases b <;> first | rfl | (simp [toD, PyData.eqv, pyEq]; done) | cases hb
  | .bl _, b, _, hb => by cases b <;> first | rfl | (simp [toD, PyData.eqv, pyEq]; done) | cases hb
  | .int _, b, _, hb => by cases b <;> first | rfl | (simp [toD, PyData.eqv, pyEq]; done) | cases hb
  | .str _, b, _, hb => by cases b <;> first | rfl | (simp [toD, PyData.eqv, pyEq]; done) | cases hb
  | .tup xs, b, ha, hb => by
    cases b with
    | tup ys =>
      simp only [toD, PyData.eqv, pyEq]
      exact eqvs_toD xs ys (by simpa [isData] using ha) (by simpa [isData] using hb)
    | _ => first | (simp [toD, PyData.eqv, pyEq]; done) | cases hb
  | .lst xs, b, ha, hb => by
    cases b with
    | lst ys =>
      simp only [toD, PyData.eqv, pyEq]
      exact eqvs_toD xs ys (by simpa [isData] using ha) (by simpa [isData] using hb)
    | _ => first | (simp [toD, PyData.eqv, pyEq]; done) | cases hb
  | .ref _, _, ha, _ => by cases ha
  | .fn _, _, ha, _ => by cases ha
  | .cls _, _, ha, _ => by cases ha
  | .exn _ _, _, ha, _ => by cases ha
  | .scr _, _, ha, _ => by cases ha
theorem eqvs_toD : ∀ xs ys : List PV, isDatas xs = true → isDatas ys = true → PyData.eqvAll (toDs xs) (toDs ys) = pyEqs xs ys
  | [], ys, _, _ => by cases ys <;> simp [toDs, PyData.eqvAll, pyEqs]
  | x :: xs, [], _, _ => by simp [toDs, PyData.eqvAll, pyEqs]
  | x :: xs, y :: ys, ha, hb => by
    simp only [isDatas, Bool.and_eq_true] at ha hb
    simp only [toDs, PyData.eqvAll, pyEqs]
    rw [eqv_toD x y ha.1 hb.1, eqvs_toD xs ys ha.2 hb.2]
end
section
variable {G : Gr} {X : Cx} {φ η : List Addr} {H : Hp} {S : PSt}
mutual
theorem Rep.dp (K : PySem.W.Frag) : ∀ {a : PV} {x : V}, Rep G φ η H a x → isData a = true → Dp K H x (toD a) ∧ (toD a).canLay0 = true
  | .non, _, r, _ => by cases r; exact ⟨.non, rfl⟩
  | .bl b, _, r, _ => by cases r; exact ⟨.bl b, rfl⟩
  | .int i, _, r, _ => by cases r; exact ⟨.int i, rfl⟩
  | .str z, _, r, _ => by obtain ⟨r, o⟩ := r; cases r; exact ⟨.str z, by simpa [toD, PyData.canLay0] using o⟩
  | .tup xs, _, r, h => by
    obtain ⟨l, us, rfl, h2, _, _, h3⟩ := r
    obtain ⟨q1, q2⟩ := Reps.dp K h3 (by simpa [isData] using h)
    exact ⟨.tup (.of h2) q1, by simpa [toD, PyData.canLay0] using q2⟩
  | .lst xs, _, r, h => by
    obtain ⟨l, us, rfl, h2, _, _, h3⟩ := r
    obtain ⟨q1, q2⟩ := Reps.dp K h3 (by simpa [isData] using h)
    exact ⟨.lst (.of h2) q1, by simpa [toD, PyData.canLay0] using q2⟩
  | .ref _, _, _, h => by cases h
  | .fn _, _, _, h => by cases h
  | .cls _, _, _, h => by cases h
  | .exn _ _, _, _, h => by cases h
  | .scr _, _, _, h => by cases h
theorem Reps.dp (K : PySem.W.Frag) : ∀ {xs : List PV} {us : List V}, Reps G φ η H xs us → isDatas xs = true → DpAll K H us (toDs xs) ∧ PyData.canLayAll0 (toDs xs) = true
  | [], _, r, _ => by cases r; exact ⟨.nil, rfl⟩
  | x :: xs, _, r, h => by
    obtain ⟨u, us, rfl, r1, r2⟩ := r
    simp only [isDatas, Bool.and_eq_true] at h
    obtain ⟨q1, q2⟩ := Rep.dp K r1 h.1
    obtain ⟨q3, q4⟩ := Reps.dp K r2 h.2
    exact ⟨.cons q1 q3, by simp [toDs, PyData.canLayAll0, q2, q4]⟩
end
theorem Rep.dp1 (K : PySem.W.Frag) (hs : StRep G φ η H S) {a : PV} {x : V} (r : Rep G φ η H a x) (h : isData (top1 S a) = true) : Dp K H x (toD (top1 S a)) ∧ (toD (top1 S a)).canLay0 = true := by
  cases a with
  | ref n =>
    obtain ⟨l, h1, rfl⟩ := r
    cases q : S[n]? with
    | none => simp [top1, q, isData] at h
    | some o =>
      cases o with
      | lst ys =>
        simp only [top1, q] at h ⊢
        obtain ⟨us, h3, h4⟩ := hs.objs n _ l q h1
        obtain ⟨q1, q2⟩ := Reps.dp K h4 (by simpa [isData] using h)
        exact ⟨.lst (.of h3) q1, by simpa [toD, PyData.canLay0] using q2⟩
      | dct kvs => simp [top1, q, isData] at h
  | _ => exact Rep.dp K r h
/-- a comparison of plain values is the machine's -/
def CmS (G : Gr) (X : Cx) (f : Value → Value → Sem Value) (g : PSt → PV → PV → Option Bool) : Prop :=
  ∀ (φ η : List Addr) (S : PSt) (a b : PV) (k : Bool) (pins : List (Addr × Obj)) (s : Shared) (σ : L2.St) (H : Hp) (x y : V) (v u : Value) (Q : VK), Inv X pins σ H s → RelV x v → RelV y u → StRep G φ η H S → Rep G φ η H a x → Rep G φ η H b y → g S a b = some k →
    Q (.bl k) H → wpAny (model X.prog X.w) X.A (f v u) (EP X pins σ Q) X.xe s
theorem cmS_eq (hu : X.A.units + 64 < cLine) : CmS G X (compareOp .Eq) (fun S a b => cmpV S .eq a b) := by
  intro φ η S a b k pins s σ H x y v u Q I rx ry hs ra rb e q
  have e : (if (isData (top1 S a) && isData (top1 S b) && decide (min (depth (top1 S a)) (depth (top1 S b)) ≤ 60)) = true then some (pyEq (top1 S a) (top1 S b)) else none) = some k := e
  split at e
  · rename_i h
    cases e
    simp only [Bool.and_eq_true, decide_eq_true_eq] at h
    obtain ⟨⟨h1, h2⟩, h3⟩ := h
    obtain ⟨d1, c1⟩ := ra.dp1 X.K hs h1
    obtain ⟨d2, c2⟩ := rb.dp1 X.K hs h2
    obtain ⟨as, r1⟩ := Dp.reads I _ x v d1 rx
    obtain ⟨bs, r2⟩ := Dp.reads I _ y u d2 ry
    have z1 := depth_toD (top1 S a)
    have z2 := depth_toD (top1 S b)
    exact SeqAt.compareEq_reads r1 r2 c1 c2 (by omega) ⟨.bl _, H, I, rfl, by rw [eqv_toD _ _ h1 h2]; exact q⟩
  · cases e
theorem cmS_ne (hu : X.A.units + 64 < cLine) : CmS G X (compareOp .NotEq) (fun S a b => cmpV S .ne a b) := by
  intro φ η S a b k pins s σ H x y v u Q I rx ry hs ra rb e q
  have e : (if (isData (top1 S a) && isData (top1 S b) && decide (min (depth (top1 S a)) (depth (top1 S b)) ≤ 60)) = true then some (pyEq (top1 S a) (top1 S b)) else none).map (!·) = some k := e
  split at e
  · rename_i h
    cases e
    simp only [Bool.and_eq_true, decide_eq_true_eq] at h
    obtain ⟨⟨h1, h2⟩, h3⟩ := h
    obtain ⟨d1, c1⟩ := ra.dp1 X.K hs h1
    obtain ⟨d2, c2⟩ := rb.dp1 X.K hs h2
    obtain ⟨as, r1⟩ := Dp.reads I _ x v d1 rx
    obtain ⟨bs, r2⟩ := Dp.reads I _ y u d2 ry
    have z1 := depth_toD (top1 S a)
    have z2 := depth_toD (top1 S b)
    exact SeqAt.compareNe_reads r1 r2 c1 c2 (by omega) ⟨.bl _, H, I, rfl, by rw [eqv_toD _ _ h1 h2]; exact q⟩
  · cases e
theorem inV_any (x : PV) : ∀ ys : List PV, isData x = true → isDatas ys = true → ((toDs ys).any fun z => PyData.eqv z (toD x)) = inV x ys
  | [], _, _ => rfl
  | y :: ys, hx, hy => by
    simp only [isDatas, Bool.and_eq_true] at hy
    simp only [toDs, List.any_cons, inV]
    rw [eqv_toD y x hy.1 hx, inV_any x ys hx hy.2]
/-- a sequence as data -/
theorem asSeq_dp (K : PySem.W.Frag) (hs : StRep G φ η H S) {b : PV} {y : V} {ys : List PV} (r : Rep G φ η H b y) (e : asSeq S b = some ys) (h : isDatas ys = true) (nb : ∀ ns, b ≠ .scr ns) :
    (Dp K H y (.list (toDs ys)) ∨ Dp K H y (.tuple (toDs ys))) ∧ PyData.canLayAll0 (toDs ys) = true := by
  cases b with
  | tup zs =>
    have e : some zs = some ys := e
    cases e
    obtain ⟨l, us, rfl, h2, _, _, h3⟩ := r
    obtain ⟨q1, q2⟩ := h3.dp K h
    exact ⟨.inr (.tup (.of h2) q1), q2⟩
  | scr ns => exact absurd rfl (nb ns)
  | lst zs =>
    obtain ⟨l, us, rfl, h2, h3⟩ := asList_rep hs r e
    obtain ⟨q1, q2⟩ := h3.dp K h
    exact ⟨.inl (.lst (.of h2) q1), q2⟩
  | ref n =>
    obtain ⟨l, us, rfl, h2, h3⟩ := asList_rep hs r e
    obtain ⟨q1, q2⟩ := h3.dp K h
    exact ⟨.inl (.lst (.of h2) q1), q2⟩
  | _ => cases e
theorem cmS_in (hu : X.A.units + 66 < cLine) : CmS G X (compareOp .In) (fun S a b => cmpV.inC S a b) := by
  intro φ η S a b k pins s σ H x y v u Q I rx ry hs ra rb e q
  have e : (match asSeq S b with
    | some ys => if (isData a && isDatas ys && decide (depth a ≤ 60) && notScr b) = true then some (inV a ys) else none
    | none => none) = some k := e
  cases h0 : asSeq S b with
  | none => rw [h0] at e; cases e
  | some ys =>
    rw [h0] at e
    simp only at e
    split at e
    · rename_i h
      cases e
      simp only [Bool.and_eq_true, decide_eq_true_eq] at h
      obtain ⟨⟨⟨h1, h2⟩, h3⟩, h4⟩ := h
      obtain ⟨d1, c1⟩ := ra.dp X.K h1
      obtain ⟨as, r1⟩ := Dp.reads I _ x v d1 rx
      have z1 := depth_toD a
      obtain ⟨d2, c2⟩ := asSeq_dp X.K hs rb h0 h2 (fun ns z => by subst z; cases h4)
      rcases d2 with d2 | d2
      · obtain ⟨bs, r2⟩ := Dp.reads I _ y u d2 ry
        exact SeqAt.in_list_reads r2 r1 c2 c1 (by show X.A.units + 1 + _ < _; omega) ⟨.bl _, H, I, rfl, by rw [inV_any a ys h1 h2]; exact q⟩
      · obtain ⟨bs, r2⟩ := Dp.reads I _ y u d2 ry
        exact SeqAt.in_tuple_reads r2 r1 c2 c1 (by show X.A.units + 1 + _ < _; omega) ⟨.bl _, H, I, rfl, by rw [inV_any a ys h1 h2]; exact q⟩
    · cases e
theorem cmS_notin (hu : X.A.units + 66 < cLine) : CmS G X (compareOp .NotIn) (fun S a b => (cmpV.inC S a b).map (!·)) := by
  intro φ η S a b k pins s σ H x y v u Q I rx ry hs ra rb e q
  have e : (match asSeq S b with
    | some ys => if (isData a && isDatas ys && decide (depth a ≤ 60) && notScr b) = true then some (inV a ys) else none
    | none => none).map (!·) = some k := e
  cases h0 : asSeq S b with
  | none => rw [h0] at e; cases e
  | some ys =>
    rw [h0] at e
    simp only at e
    split at e
    · rename_i h
      cases e
      simp only [Bool.and_eq_true, decide_eq_true_eq] at h
      obtain ⟨⟨⟨h1, h2⟩, h3⟩, h4⟩ := h
      obtain ⟨d1, c1⟩ := ra.dp X.K h1
      obtain ⟨as, r1⟩ := Dp.reads I _ x v d1 rx
      have z1 := depth_toD a
      obtain ⟨d2, c2⟩ := asSeq_dp X.K hs rb h0 h2 (fun ns z => by subst z; cases h4)
      rcases d2 with d2 | d2
      · obtain ⟨bs, r2⟩ := Dp.reads I _ y u d2 ry
        exact SeqAt.notIn_list_reads r2 r1 c2 c1 (by show X.A.units + 1 + _ < _; omega) ⟨.bl _, H, I, rfl, by rw [inV_any a ys h1 h2]; exact q⟩
      · obtain ⟨bs, r2⟩ := Dp.reads I _ y u d2 ry
        exact SeqAt.notIn_tuple_reads r2 r1 c2 c1 (by show X.A.units + 1 + _ < _; omega) ⟨.bl _, H, I, rfl, by rw [inV_any a ys h1 h2]; exact q⟩
    · cases e
theorem cmS_ord {o : CmpOp} {f : Int → Int → Bool} {g : PSt → PV → PV → Option Bool} (hf : OpR X (compareOp o) (rI0 fun i j => .bl (f i j))) (hg : ∀ S a b k, g S a b = some k → ∃ i j, a = .int i ∧ b = .int j ∧ k = f i j) : CmS G X (compareOp o) g := by
  intro φ η S a b k pins s σ H x y v u Q I rx ry hs ra rb e q
  obtain ⟨i, j, rfl, rfl, rfl⟩ := hg S a b k e
  exact hf pins s σ H x y v u Q I rx ry ⟨i, j, ra, rb, q⟩
theorem Rep.non_iff {a : PV} {x : V} (r : Rep G φ η H a x) : decide (x = .non) = isNon a := by
  cases a with
  | non => cases r; rfl
  | bl _ => cases r; rfl
  | int _ => cases r; rfl
  | str _ => obtain ⟨r, _⟩ := r; cases r; rfl
  | tup _ => obtain ⟨_, _, rfl, _⟩ := r; rfl
  | lst _ => obtain ⟨_, _, rfl, _⟩ := r; rfl
  | ref _ => obtain ⟨_, _, rfl⟩ := r; rfl
  | fn _ => obtain ⟨_, _, rfl, _⟩ := r; rfl
  | cls _ => obtain ⟨_, _, rfl⟩ := r; rfl
  | exn _ _ => exact r.elim
  | scr _ => obtain ⟨_, rfl, _⟩ := r; rfl
theorem cmS_cmp {op : COp} {o : CmpOp} (h : opC op o = true) (hu : X.A.units + 66 < cLine) : CmS G X (compareOp o) (fun S a b => cmpV S op a b) := by
  cases op with
  | eq => cases o with
    | Eq => exact cmS_eq (by omega)
    | _ => cases h
  | ne => cases o with
    | NotEq => exact cmS_ne (by omega)
    | _ => cases h
  | lt => cases o with
    | Lt => exact cmS_ord op_lt fun S a b k e => by cases a <;> cases b <;> first | (cases e; exact ⟨_, _, rfl, rfl, rfl⟩) | cases e
    | _ => cases h
  | le => cases o with
    | LtE => exact cmS_ord op_le fun S a b k e => by cases a <;> cases b <;> first | (cases e; exact ⟨_, _, rfl, rfl, rfl⟩) | cases e
    | _ => cases h
  | gt => cases o with
    | Gt => exact cmS_ord op_gt fun S a b k e => by cases a <;> cases b <;> first | (cases e; exact ⟨_, _, rfl, rfl, rfl⟩) | cases e
    | _ => cases h
  | ge => cases o with
    | GtE => exact cmS_ord op_ge fun S a b k e => by cases a <;> cases b <;> first | (cases e; exact ⟨_, _, rfl, rfl, rfl⟩) | cases e
    | _ => cases h
  | is => cases o with
    | Is =>
      intro φ η S a b k pins s σ H x y v u Q I rx ry hs ra rb e q
      cases b with
      | non =>
        have rb : y = .non := rb
        refine op_isN pins s σ H x y v u Q I rx ry ⟨rb, ?_⟩
        rw [ra.non_iff]
        have e : some _ = some k := e
        cases e
        exact q
      | bl c =>
        cases a with
        | bl b =>
          have e : some (decide (b = c)) = some k := e
          cases e
          exact op_isBl pins s σ H x y v u Q I rx ry ⟨b, c, ra, rb, q⟩
        | _ => cases e
      | _ => cases a <;> cases e
    | _ => cases h
  | isnot => cases o with
    | IsNot =>
      intro φ η S a b k pins s σ H x y v u Q I rx ry hs ra rb e q
      cases b with
      | non =>
        have rb : y = .non := rb
        refine op_notN pins s σ H x y v u Q I rx ry ⟨rb, ?_⟩
        rw [ra.non_iff]
        have e : some _ = some k := e
        cases e
        exact q
      | bl c =>
        cases a with
        | bl b =>
          have e : some (!decide (b = c)) = some k := e
          cases e
          exact op_notBl pins s σ H x y v u Q I rx ry ⟨b, c, ra, rb, q⟩
        | _ => cases e
      | _ => cases a <;> cases e
    | _ => cases h
  | inn => cases o with
    | In =>
      intro φ η S a b k pins s σ H x y v u Q I rx ry hs ra rb e q
      by_cases hb : ∃ z w, a = .str z ∧ b = .str w
      · obtain ⟨z, w, rfl, rfl⟩ := hb
        have e : some _ = some k := e
        cases e
        exact op_in_str pins s σ H x y v u Q I rx ry ⟨z, w, ra.1, rb.1, q⟩
      · refine cmS_in hu φ η S a b k pins s σ H x y v u Q I rx ry hs ra rb ?_ q
        rw [← e]
        cases a <;> cases b <;> first | rfl | exact absurd ⟨_, _, rfl, rfl⟩ hb
    | _ => cases h
  | notin => cases o with
    | NotIn =>
      intro φ η S a b k pins s σ H x y v u Q I rx ry hs ra rb e q
      by_cases hb : ∃ z w, a = .str z ∧ b = .str w
      · obtain ⟨z, w, rfl, rfl⟩ := hb
        have e : some _ = some k := e
        cases e
        exact op_notin_str pins s σ H x y v u Q I rx ry ⟨z, w, ra.1, rb.1, q⟩
      · refine cmS_notin hu φ η S a b k pins s σ H x y v u Q I rx ry hs ra rb ?_ q
        rw [← e]
        cases a <;> cases b <;> first | rfl | exact absurd ⟨_, _, rfl, rfl⟩ hb
    | _ => cases h
end
end Pw
/-! Pw7: items, slices, truth, types, built-in functions and methods of the plain interpreter are the machine's. -/
namespace Pw
open PySem PySem.Spec PyProof.Rows L2
section
variable {G : Gr} {X : Cx} {φ η : List Addr} {H : Hp} {S : PSt}
theorem strOk_mem {x : PySem.Str} : PyData.strOk x = true ↔ ∀ c ∈ x.cps.toList, c < 0x110000 := by
  unfold PyData.strOk
  rw [← Array.all_toList, List.all_eq_true]
  simp
theorem strOk_of {x : PySem.Str} {l : List Nat} (h : PyData.strOk x = true) (hl : ∀ c ∈ l, c ∈ x.cps.toList) : PyData.strOk ⟨l.toArray⟩ = true := strOk_mem.mpr fun c hc => strOk_mem.mp h c (hl c (by simpa using hc))
theorem atI_rep {xs : List PV} {us : List V} (r : Reps G φ η H xs us) {i : Int} {c : PV} (e : L2.atI xs i = some c) : ∃ v, L2.atI us i = some v ∧ Rep G φ η H c v := by
  unfold L2.atI at *
  rw [← r.length]
  cases q : L2.ixN xs.length i with
  | none => rw [q] at e; cases e
  | some j =>
    rw [q] at e
    exact r.get e
theorem ixS (hKx : X.K = G.K) (b : Expr) (hb : PlainIx b) : ∀ (value : Expr) (φ η : List Addr) (S : PSt) (a i c : PV) (pins : List (Addr × Obj)) (s : Shared) (σ : L2.St) (H : Hp) (x y : V) (v u : Value) (Q : VK), Inv X pins σ H s → RelV x v → RelV y u → StRep G φ η H S → Rep G φ η H a x → Rep G φ η H i y → idxV S a i = some c →
    (∀ w, Rep G φ η H c w → Q w H) → wpAny (model X.prog X.w) X.A (subscriptTail value b v u) (EP X pins σ Q) X.xe s := by
  intro value φ η S a i c pins s σ H x y v u Q I rx ry hs ra ri e q
  refine ix_seq value b pins s σ H x y v u Q I rx ry ?_ (hb _ _)
  cases i with
  | int i =>
    have ri : y = .int i := ri
    have go : ∀ a, Rep G φ η H a x → (match asSeq S a with
        | some xs => L2.atI xs i
        | none => none) = some c → rIx X.K x y H Q := fun a ra e => by
      cases h0 : asSeq S a with
      | none => rw [h0] at e; cases e
      | some xs =>
        rw [h0] at e
        obtain ⟨l, us, h1, h2, h3⟩ := asSeq_rep hs ra h0
        obtain ⟨w, h4, h5⟩ := atI_rep h3 e
        rcases h2 with h2 | h2
        · exact .inl ⟨l, us, i, w, h1, ri, by rw [hKx]; exact h2, h4, q w h5⟩
        · exact .inr (.inl ⟨l, us, i, w, h1, ri, .of h2, h4, q w h5⟩)
    cases a with
    | str z =>
      have e : (if z.length ≤ LIM then (L2.atI z.cps.toList i).map fun c => PV.str ⟨#[c]⟩ else none) = some c := e
      split at e
      · rename_i hl
        cases h0 : L2.atI z.cps.toList i with
        | none => rw [h0] at e; cases e
        | some k =>
          rw [h0] at e
          cases e
          refine .inr (.inr ⟨z, i, k, ra.1, ri, by rw [lim_eq]; exact hl, h0, q _ ⟨rfl, strOk_of (l := [k]) ra.2 fun c hc => ?_⟩⟩)
          rw [List.mem_singleton.mp hc]
          unfold L2.atI at h0
          cases h1 : L2.ixN z.cps.toList.length i with
          | none => rw [h1] at h0; cases h0
          | some j => rw [h1] at h0; exact List.mem_of_getElem? h0
      · cases e
    | tup xs => exact go (.tup xs) ra e
    | lst xs => exact go (.lst xs) ra e
    | ref n => exact go (.ref n) ra e
    | scr ns => exact go (.scr ns) ra e
    | _ => cases e
  | _ => cases e
theorem Reps.cut {xs : List PV} {us : List V} (r : Reps G φ η H xs us) (lo hi : Option Int) : Reps G φ η H (cutP xs lo hi) (L2.cutV us lo hi) := by
  unfold cutP L2.cutV
  rw [← r.length]
  exact (r.drop _).take _
/-- a slice of plain values is the machine's -/
theorem slS (φ η : List Addr) (S : PSt) (a c : PV) : SlR X (fun x lo hi H Q => StRep G φ η H S ∧ Rep G φ η H a x ∧ sliceV S a lo hi = some c ∧ ∀ H' w, Ext φ φ H H' → StRep G φ η H' S → Rep G φ η H' c w → Q w H') := by
  intro pins s σ H x v vl vu lo hi sl Q I rx hsl pl pu h
  obtain ⟨hs, ra, e, q⟩ := h
  have go : ∀ a, Rep G φ η H a x → (asList S a).map (fun xs => PV.lst (cutP xs lo hi)) = some c → ∃ T id, typeLookup (.type T) "__getitem__" = pure (some (.builtin id)) ∧ s.TypeIs v T ∧ wpAny (model X.prog X.w) X.A (getItem v (.ref sl)) (EP X pins σ Q) X.xe s := fun a ra e => by
    cases h0 : asList S a with
    | none => rw [h0] at e; cases e
    | some xs =>
      rw [h0] at e
      cases e
      obtain ⟨l, us, h1, h2, h3⟩ := asList_rep hs ra h0
      exact sl_list pins s σ H x v vl vu lo hi sl Q I rx hsl pl pu ⟨l, us, h1, .of h2, fun p hp => q _ _ (.new hp) (hs.new hp) (rep_newL hs hp (h3.cut lo hi))⟩
  cases a with
  | str z =>
    have e : (if z.length ≤ LIM then some (PV.str (L2.cutS z lo hi)) else none) = some c := e
    split at e
    · rename_i hl
      cases e
      refine sl_str pins s σ H x v vl vu lo hi sl Q I rx hsl pl pu ⟨z, ra.1, by rw [lim_eq]; exact hl, q _ _ (.refl φ H) hs ⟨rfl, strOk_of ra.2 fun c hc => ?_⟩⟩
      exact List.mem_of_mem_drop (List.mem_of_mem_take hc)
    · cases e
  | tup xs =>
    have e : some (PV.tup (cutP xs lo hi)) = some c := e
    cases e
    obtain ⟨l, us, h1, h2, n1, n2, h3⟩ := id ra
    refine sl_tupA pins s σ H x v vl vu lo hi sl Q I rx hsl pl pu ⟨l, us, h1, .of h2, fun hw => ?_, fun _ p hp => q _ _ (.new hp) (hs.new hp) (rep_newT hs hp (h3.cut lo hi))⟩
    have ec : cutP xs lo hi = xs := by
      unfold cutP
      rw [h3.length, hw.1, hw.2, Nat.sub_zero, List.drop_zero]
      exact List.take_of_length_le (by rw [h3.length]; exact Nat.le_refl _)
    rw [ec] at q
    exact q _ _ (.refl φ H) hs (by rw [← h1]; exact ra)
  | lst xs => exact go (.lst xs) ra e
  | ref n => exact go (.ref n) ra e
  | _ => cases e
/-- truth -/
theorem truS {a : PV} {x : V} {k : Bool} (hs : StRep G φ η H S) (ra : Rep G φ η H a x) (e : truthy S a = some k) (K : PySem.W.Frag) : TruV K x H k := by
  have go : ∀ a, Rep G φ η H a x → (asList S a).map (fun xs => !xs.isEmpty) = some k → TruV K x H k := fun a ra e => by
    cases h0 : asList S a with
    | none => rw [h0] at e; cases e
    | some xs =>
      rw [h0] at e
      cases e
      obtain ⟨l, us, h1, h2, h3⟩ := asList_rep hs ra h0
      subst h1
      refine .inl ⟨us, .of h2, ?_⟩
      have := h3.length
      cases xs <;> cases us <;> simp_all
  cases a with
  | non => cases ra; cases e; rfl
  | bl b => cases ra; cases e; rfl
  | int i => cases ra; cases e; rfl
  | str z =>
    obtain ⟨ra, _⟩ := ra
    cases ra
    have e : (if z.length ≤ LIM then some ((z.length : Int) != 0) else none) = some k := e
    split at e
    · rename_i hl
      cases e
      exact ⟨by rw [lim_eq]; exact hl, rfl⟩
    · cases e
  | tup xs =>
    have e : some (!xs.isEmpty) = some k := e
    cases e
    obtain ⟨l, us, h1, h2, n1, n2, h3⟩ := id ra
    subst h1
    refine .inr (.inl ⟨us, .of h2, ?_⟩)
    have := h3.length
    cases xs <;> cases us <;> simp_all
  | lst xs => exact go (.lst xs) ra e
  | ref n => exact go (.ref n) ra e
  | _ => cases e
theorem kitB_ty (K : PySem.W.Frag) : ∀ t : Ty, PySem.W.kitOne K (.type "NoneType") (.type (match t with
    | .int => "int" | .bool => "bool" | .str => "str" | .tuple => "tuple" | .list => "list")) = some false := by
  intro t
  cases t <;> exact kit_ty (by decide +kernel)
def Ty.nm : Ty → String
  | .int => "int" | .bool => "bool" | .str => "str" | .tuple => "tuple" | .list => "list"
theorem tyS {a : PV} {x : V} {t : Ty} {k : Bool} (ra : Rep G φ η H a x) (e : tyV S a t = some k) (K : PySem.W.Frag) : ∃ T : String, TyX K H x (.type T) ∧ PySem.W.kitOne K (.type T) (.type t.nm) = some k := by
  cases a with
  | non =>
    cases ra; cases e
    exact ⟨_, .base .non, by cases t <;> exact kit_ty (by decide +kernel)⟩
  | bl b =>
    cases ra; cases e
    exact ⟨_, .base (.bl b), by cases t <;> exact kit_ty (by decide +kernel)⟩
  | int i =>
    cases ra; cases e
    exact ⟨_, .base (.int i), by cases t <;> exact kit_ty (by decide +kernel)⟩
  | str z =>
    obtain ⟨ra, _⟩ := ra
    cases ra; cases e
    exact ⟨_, .base (.str z), by cases t <;> exact kit_ty (by decide +kernel)⟩
  | tup xs =>
    obtain ⟨l, us, rfl, h2, n1, n2, h3⟩ := ra
    cases e
    exact ⟨_, .base (.tup h2), by cases t <;> exact kit_ty (by decide +kernel)⟩
  | lst xs =>
    obtain ⟨l, us, rfl, h2, n1, n2, h3⟩ := ra
    cases e
    exact ⟨_, .base (.lst h2), by cases t <;> exact kit_ty (by decide +kernel)⟩
  | _ => cases e
end
end Pw
/-! Pw8: built-in functions and methods of the plain interpreter are the machine's. -/
namespace Pw
open PySem PySem.Spec PyProof.Rows L2
theorem spl_mem (T : List Nat) : ∀ (l : List Nat) (k : Nat) (acc : List Nat) (p : List Nat) (c : Nat), p ∈ TL.spl T k acc l → c ∈ p → c ∈ acc ∨ c ∈ l
  | [], k, acc, p, c, hp, hc => by
    rw [TL.spl_nil] at hp
    rw [List.mem_singleton.mp hp] at hc
    exact .inl hc
  | d :: r, k + 1, acc, p, c, hp, hc => by
    rcases spl_mem T r k acc p c hp hc with h | h
    · exact .inl h
    · exact .inr (List.mem_cons_of_mem _ h)
  | d :: r, 0, acc, p, c, hp, hc => by
    cases e : TL.pre T (d :: r) with
    | true =>
      rw [TL.spl_hit e] at hp
      rcases List.mem_cons.mp hp with h | h
      · rw [h] at hc; exact .inl hc
      · rcases spl_mem T r _ [] p c h hc with h | h
        · cases h
        · exact .inr (List.mem_cons_of_mem _ h)
    | false =>
      rw [TL.spl_miss e] at hp
      rcases spl_mem T r 0 _ p c hp hc with h | h
      · rcases List.mem_append.mp h with h | h
        · exact .inl h
        · rw [List.mem_singleton.mp h]; exact .inr List.mem_cons_self
      · exact .inr (List.mem_cons_of_mem _ h)
theorem strOk_split {x y : PySem.Str} (hx : PyData.strOk x = true) (hy : y.cps.all (· < 256) = true) (hl : y.length = 1) : ∀ z ∈ Txt.split x y, PyData.strOk z = true := fun z hz => by
  have hne : TL.tl y ≠ [] := fun e => by rw [TL.len_tl, e] at hl; cases hl
  have e := TL.split_spl x y hne (TL.kind_ok hy)
  have hm : TL.tl z ∈ TL.spl (TL.tl y) 0 [] (TL.tl x) := by rw [← e]; exact List.mem_map_of_mem hz
  refine strOk_mem.mpr fun c hc => strOk_mem.mp hx c ?_
  rcases spl_mem _ _ _ _ _ c hm hc with h | h
  · cases h
  · exact h
theorem strOk_join (x : PySem.Str) (hx : PyData.strOk x = true) : ∀ ys : List PySem.Str, (∀ z ∈ ys, PyData.strOk z = true) → PyData.strOk (PySem.Str.join x ys) = true
  | [], _ => by show PyData.strOk Str.empty = true; decide +kernel
  | [y], h => h y List.mem_cons_self
  | y :: z :: r, h => by
    show PyData.strOk (y ++ x ++ PySem.Str.join x (z :: r)) = true
    exact strOk_append (strOk_append (h y List.mem_cons_self) hx) (strOk_join x hx (z :: r) fun w hw => h w (List.mem_cons_of_mem _ hw))
theorem strOk_num (i : Int) : PyData.strOk (Str.ofString (toString i)) = true := by
  rw [Str.ofString_eq_toList]
  refine strOk_mem.mpr fun c hc => ?_
  obtain ⟨d, _, rfl⟩ := List.mem_map.mp (by simpa using hc)
  have := d.valid
  have h2 : d.toNat < 0x110000 := by
    have h := d.valid
    simp only [UInt32.isValidChar, Nat.isValidChar] at h
    show d.val.toNat < _
    omega
  exact h2
section
variable {G : Gr} {X : Cx} {φ η : List Addr} {H : Hp} {S : PSt}
theorem Reps.one_inv {a : PV} {us : List V} (r : Reps G φ η H [a] us) : ∃ x, us = [x] ∧ Rep G φ η H a x := by
  obtain ⟨x, _, rfl, h, e⟩ := r
  cases e
  exact ⟨x, rfl, h⟩
theorem Reps.two_inv {a b : PV} {us : List V} (r : Reps G φ η H [a, b] us) : ∃ x y, us = [x, y] ∧ Rep G φ η H a x ∧ Rep G φ η H b y := by
  obtain ⟨x, _, rfl, h, q⟩ := r
  obtain ⟨y, rfl, h2⟩ := q.one_inv
  exact ⟨x, y, rfl, h, h2⟩
def Blt.fv : Blt → Value
  | .len => .builtin "len" | .abs => .builtin "abs" | .int => .type "int" | .str => .type "str" | .tuple => .type "tuple" | .min2 => .builtin "min" | .max2 => .builtin "max" | .sum => .builtin "sum" | .sorted => .builtin "sorted" | .bool => .type "bool"
theorem bltS (hKx : X.K = G.K) (hc : X.calm = true) (b : Blt) (φ η : List Addr) (S : PSt) (vs : List PV) (c : PV) : CallR X b.fv (fun xs H Q => StRep G φ η H S ∧ Reps G φ η H vs xs ∧ bltV S b vs = some c ∧ ∀ H' w, Ext φ φ H H' → StRep G φ η H' S → Rep G φ η H' c w → Q w H') := by
  intro pins s σ H xs us Q I r h
  obtain ⟨hs, rv, e, q⟩ := h
  cases b with
  | len =>
    cases vs with
    | nil => cases e
    | cons a t =>
      cases t with
      | cons _ _ => cases a <;> cases e
      | nil =>
        obtain ⟨x, rfl, ra⟩ := rv.one_inv
        have go : ∀ a, Rep G φ η H a x → (match asSeq S a with
            | some xs => some (PV.int xs.length)
            | none => none) = some c → wpAny (model X.prog X.w) X.A (call (.builtin "len") us) (EP X pins σ Q) X.xe s := fun a ra e => by
          cases h0 : asSeq S a with
          | none => rw [h0] at e; cases e
          | some xs =>
            rw [h0] at e
            cases e
            obtain ⟨l, ws, h1, h2, h3⟩ := asSeq_rep hs ra h0
            refine call_len pins s σ H [x] us Q I r ⟨x, xs.length, rfl, ?_, q _ _ (.refl φ H) hs rfl⟩
            subst h1
            rcases h2 with h2 | h2
            · exact .inl ⟨ws, by rw [hKx]; exact h2, h3.length⟩
            · exact .inr ⟨ws, .of h2, h3.length⟩
        cases a with
        | str z =>
          have e : (if z.length ≤ LIM then some (PV.int z.length) else none) = some c := e
          split at e
          · rename_i hl
            cases e
            refine call_len pins s σ H [x] us Q I r ⟨x, z.length, rfl, ?_, q _ _ (.refl φ H) hs rfl⟩
            rw [ra.1]
            exact ⟨by rw [lim_eq]; exact hl, rfl⟩
          · cases e
        | tup xs => exact go _ ra e
        | lst xs => exact go _ ra e
        | ref n => exact go _ ra e
        | scr ns => exact go _ ra e
        | _ => cases e
  | abs =>
    cases vs with
    | nil => cases e
    | cons a t =>
      cases t with
      | cons _ _ => cases a <;> cases e
      | nil =>
        obtain ⟨x, rfl, ra⟩ := rv.one_inv
        cases a with
        | int i => cases e; exact call_abs pins s σ H [x] us Q I r ⟨i, by rw [show x = V.int i from ra], q _ _ (.refl φ H) hs rfl⟩
        | _ => cases e
  | int =>
    cases vs with
    | nil => cases e
    | cons a t =>
      cases t with
      | cons _ _ => cases a <;> cases e
      | nil =>
        obtain ⟨x, rfl, ra⟩ := rv.one_inv
        cases a with
        | int i => cases e; exact call_int1 pins s σ H [x] us Q I r (.inl ⟨i, by rw [show x = V.int i from ra], q _ _ (.refl φ H) hs rfl⟩)
        | bl i => cases e; exact call_int1 pins s σ H [x] us Q I r (.inr ⟨i, by rw [show x = V.bl i from ra], q _ _ (.refl φ H) hs rfl⟩)
        | str z =>
          have e : (if z.length ≤ 600 then (PySem.intText? z).map PV.int else none) = some c := e
          split at e
          · rename_i hl
            cases h0 : PySem.intText? z with
            | none => rw [h0] at e; cases e
            | some n =>
              rw [h0] at e
              cases e
              exact call_int_str pins s σ H [x] us Q I r ⟨z, n, by rw [ra.1], h0, by omega, q _ _ (.refl φ H) hs rfl⟩
          · cases e
        | _ => cases e
  | str =>
    cases vs with
    | nil => cases e
    | cons a t =>
      cases t with
      | cons _ _ => cases a <;> cases e
      | nil =>
        obtain ⟨x, rfl, ra⟩ := rv.one_inv
        cases a with
        | int i =>
          have e : (if i.natAbs.log2 < 1920 then some (PV.str (toString i)) else none) = some c := e
          split at e
          · rename_i hl
            cases e
            exact call_str_int pins s σ H [x] us Q I r ⟨i, by rw [show x = V.int i from ra], hl, q _ _ (.refl φ H) hs ⟨rfl, strOk_num i⟩⟩
          · cases e
        | bl i =>
          cases e
          obtain rfl : x = V.bl i := ra
          obtain ⟨u, rfl, r1⟩ := vals1 r
          obtain rfl : u = Value.bool i := r1
          exact PySem.P.str_of_bool ⟨.str _, H, I.tok _, ⟨_, rfl⟩, q _ _ (.refl φ H) hs ⟨rfl, by cases i <;> decide +kernel⟩⟩
        | str z => cases e; exact SkE.call_str_str pins s σ H [x] us Q I r ⟨z, by rw [ra.1], q _ _ (.refl φ H) hs ⟨rfl, ra.2⟩⟩
        | _ => cases e
  | tuple =>
    cases vs with
    | nil => cases e
    | cons a t =>
      cases t with
      | cons _ _ => cases a <;> cases e
      | nil =>
        obtain ⟨x, rfl, ra⟩ := rv.one_inv
        have go : ∀ a, Rep G φ η H a x → (asList S a).map PV.tup = some c → wpAny (model X.prog X.w) X.A (call (.type "tuple") us) (EP X pins σ Q) X.xe s := fun a ra e => by
          cases h0 : asList S a with
          | none => rw [h0] at e; cases e
          | some xs =>
            rw [h0] at e
            cases e
            obtain ⟨l, ws, h1, h2, h3⟩ := asList_rep hs ra h0
            subst h1
            exact call_tuple_of pins s σ H _ us Q I r ⟨l, ws, rfl, .inl ⟨.of h2, fun p hp => q _ _ (.new hp) (hs.new hp) (rep_newT hs hp h3)⟩⟩
        cases a with
        | tup xs =>
          cases e
          obtain ⟨l, ws, h1, h2, n1, n2, h3⟩ := id ra
          subst h1
          exact call_tuple_of pins s σ H _ us Q I r ⟨l, ws, rfl, .inr ⟨.of h2, q _ _ (.refl φ H) hs ra⟩⟩
        | lst xs => exact go _ ra e
        | ref n => exact go _ ra e
        | _ => cases e
  | min2 =>
    cases vs with
    | nil => cases e
    | cons a t =>
      cases t with
      | nil => cases a <;> cases e
      | cons b t =>
        cases t with
        | cons _ _ => cases a <;> cases b <;> cases e
        | nil =>
          obtain ⟨x, y, rfl, ra, rb⟩ := rv.two_inv
          cases a with
          | int i => cases b with
            | int j => cases e; exact call_min2 hc pins s σ H [x, y] us Q I r ⟨i, j, by rw [show x = V.int i from ra, show y = V.int j from rb], q _ _ (.refl φ H) hs rfl⟩
            | _ => cases e
          | _ => cases e
  | max2 =>
    cases vs with
    | nil => cases e
    | cons a t =>
      cases t with
      | nil => cases a <;> cases e
      | cons b t =>
        cases t with
        | cons _ _ => cases a <;> cases b <;> cases e
        | nil =>
          obtain ⟨x, y, rfl, ra, rb⟩ := rv.two_inv
          cases a with
          | int i => cases b with
            | int j => cases e; exact call_max2 hc pins s σ H [x, y] us Q I r ⟨i, j, by rw [show x = V.int i from ra, show y = V.int j from rb], q _ _ (.refl φ H) hs rfl⟩
            | _ => cases e
          | _ => cases e
  | sum => cases e
  | sorted => cases e
  | bool =>
    cases vs with
    | nil => cases e
    | cons a t =>
      cases t with
      | cons _ _ => cases a <;> cases e
      | nil =>
        obtain ⟨x, rfl, ra⟩ := rv.one_inv
        cases a with
        | bl i => cases e; exact call_bool1 pins s σ H [x] us Q I r (.inr ⟨i, by rw [show x = V.bl i from ra], q _ _ (.refl φ H) hs rfl⟩)
        | _ => cases e
theorem strsOf_rep : ∀ {xs : List PV} {us : List V} {ys : List PySem.Str}, Reps G φ η H xs us → strsOf xs = some ys → us = ys.map V.str ∧ ∀ z ∈ ys, PyData.strOk z = true
  | [], _, _, r, e => by cases r; cases e; exact ⟨rfl, fun _ h => nomatch h⟩
  | x :: xs, _, ys, r, e => by
    obtain ⟨u, us, rfl, r1, r2⟩ := r
    cases x with
    | str z =>
      obtain ⟨rfl, o⟩ := r1
      cases h0 : strsOf xs with
      | none => simp [strsOf, h0] at e
      | some zs =>
        simp only [strsOf, h0, Option.map_some, Option.some.injEq] at e
        subst e
        obtain ⟨e1, e2⟩ := strsOf_rep r2 h0
        exact ⟨by rw [e1]; rfl, fun w hw => by rcases List.mem_cons.mp hw with h | h; rw [h]; exact o; exact e2 w h⟩
    | _ => cases e
theorem reps_strs : ∀ ys : List PySem.Str, (∀ z ∈ ys, PyData.strOk z = true) → Reps G φ η H (ys.map PV.str) (ys.map V.str)
  | [], _ => rfl
  | y :: ys, h => ⟨.str y, ys.map V.str, rfl, ⟨rfl, h y List.mem_cons_self⟩, reps_strs ys fun z hz => h z (List.mem_cons_of_mem _ hz)⟩
theorem mthS_split (φ η : List Addr) (S : PSt) (a : PV) (vs : List PV) (c : PV) : MtR X "str.split" (fun x xs H Q => StRep G φ η H S ∧ Rep G φ η H a x ∧ Reps G φ η H vs xs ∧ mthV S .split a vs = some c ∧ ∀ H' w, Ext φ φ H H' → StRep G φ η H' S → Rep G φ η H' c w → Q w H') := by
  intro pins s σ H x xs v us Q I rx rs h
  obtain ⟨hs, ra, rv, e, q⟩ := h
  cases a with
  | str z =>
    cases vs with
    | nil => cases e
    | cons b t =>
      cases t with
      | cons _ _ => cases b <;> cases e
      | nil =>
        cases b with
        | str y =>
          obtain ⟨w, rfl, rb⟩ := rv.one_inv
          have e : (if (decide (y.length = 1) && y.cps.all (· < 256) && decide (z.length + 2 ≤ LIM)) = true then some (PV.lst ((Txt.split z y).map .str)) else none) = some c := e
          split at e
          · rename_i hm
            cases e
            simp only [Bool.and_eq_true, decide_eq_true_eq] at hm
            obtain ⟨⟨h1, h2⟩, h3⟩ := hm
            refine mt_split pins s σ H x [w] v us Q I rx rs ⟨z, y, ra.1, by rw [rb.1], by rw [h1]; rfl, by rw [lim_eq]; exact h3, fun p hp => ?_⟩
            exact q _ _ (.new hp) (hs.new hp) (rep_newL hs hp (reps_strs _ (strOk_split ra.2 h2 h1)))
          · cases e
        | _ => cases e
  | _ => cases vs <;> cases e
theorem mthS_join (φ η : List Addr) (S : PSt) (a : PV) (vs : List PV) (c : PV) : MtR X "str.join" (fun x xs H Q => StRep G φ η H S ∧ Rep G φ η H a x ∧ Reps G φ η H vs xs ∧ mthV S .join a vs = some c ∧ ∀ H' w, Ext φ φ H H' → StRep G φ η H' S → Rep G φ η H' c w → Q w H') := by
  intro pins s σ H x xs v us Q I rx rs h
  obtain ⟨hs, ra, rv, e, q⟩ := h
  cases a with
  | str z =>
    cases vs with
    | nil => cases e
    | cons b t =>
      cases t with
      | cons _ _ => cases b <;> cases e
      | nil =>
        obtain ⟨w, rfl, rb⟩ := rv.one_inv
        have e : (match asList S b with
          | some xs => (match strsOf xs with
            | some ys => if (decide ((ys.map (·.length)).sum + ys.length * z.length ≤ LIM)) = true then some (PV.str (Txt.join z ys)) else none
            | none => none)
          | none => none) = some c := e
        cases h0 : asList S b with
        | none => rw [h0] at e; cases e
        | some ps =>
          rw [h0] at e
          simp only at e
          cases h1 : strsOf ps with
          | none => rw [h1] at e; cases e
          | some ys =>
            rw [h1] at e
            simp only at e
            split at e
            · rename_i hm
              cases e
              obtain ⟨l, us', h2, h3, h4⟩ := asList_rep hs rb h0
              obtain ⟨e1, e2⟩ := strsOf_rep h4 h1
              refine mt_join pins s σ H x [w] v us Q I rx rs ⟨z, l, ys, ra.1, by rw [h2], .inl (.of (by rw [← e1]; exact h3)), of_decide_eq_true hm, q _ _ (.refl φ H) hs ⟨rfl, ?_⟩⟩
              rw [TL.join_eq]
              exact strOk_join z ra.2 ys e2
            · cases e
  | _ => cases vs <;> cases e
end
end Pw
/-! Pw9: the nodes of expressions, one by one. -/
namespace Pw
open PySem PySem.Spec PyProof.Rows L2
theorem imp_PE {X : Cx} {e : Expr} {t t' : TE} (h : PE X e t) (i : ∀ σ H Q, t' σ H Q → t σ H Q) : PE X e t' := ⟨fun pins s σ H Q I q => h.run pins s σ H Q I (i σ H Q q)⟩
theorem imp_PT {X : Cx} {e : Expr} {t t' : TT} (h : PT X e t) (i : ∀ σ H Q, t' σ H Q → t σ H Q) : PT X e t' := ⟨fun pins s σ H Q I q => h.run pins s σ H Q I (i σ H Q q)⟩
theorem imp_PW {X : Cx} {e : Expr} {t t' : TT} (h : PW X e t) (i : ∀ σ H Q, t' σ H Q → t σ H Q) : PW X e t' := ⟨fun wh pins s σ H Q I q => h.run wh pins s σ H Q I (i σ H Q q)⟩
theorem imp_PA {X : Cx} {e : List Expr} {t t' : TA} (h : PA X e t) (i : ∀ σ H Q, t' σ H Q → t σ H Q) : PA X e t' := ⟨fun p pins s σ H Q I q => h.run p pins s σ H Q I (i σ H Q q)⟩
theorem imp_PI {X : Cx} {tg e : Expr} {t t' : TI} (h : PI X tg e t) (i : ∀ σ H Q, t' σ H Q → t σ H Q) : PI X tg e t' := ⟨fun pins s σ H Q I q => h.run pins s σ H Q I (i σ H Q q)⟩
theorem okE_star {e : Expr} {es : List Expr} {env : PySem.Env} (h : okE e = true) : starEach (e :: es) env = (false, eval e env) :: starEach es env := by
  cases e <;> first | rfl | cases h
theorem okE_ix {b : Expr} (h : okE b = true) : PlainIx b := fun o i => by
  cases b <;> first | rfl | cases h
theorem okE_set {e : Expr} {env : PySem.Env} (h : okE e = true) : ∀ x, foldedSetIterable e env x = pure x := fun x => by
  cases e <;> first | rfl | cases h
section
variable {G : Gr} {X : Cx} {E : XK} {φ η : List Addr} {H : Hp} {S : PSt}
theorem post_ofO {α β : Type} {rel : List Addr → List Addr → Hp → α → β → Prop} {Q : β → Hp → Prop} {o : Option α} (h : Post G rel E φ η H Q (R.ofO S o)) : ∃ a, o = some a ∧ Post G rel E φ η H Q (.ok a S) := by
  cases o with
  | none => exact (h : False).elim
  | some a => exact ⟨a, rfl, h⟩
theorem post_ofO_bind {α γ β : Type} {rel : List Addr → List Addr → Hp → α → β → Prop} {Q : β → Hp → Prop} {o : Option γ} {f : γ → PSt → R α} (h : Post G rel E φ η H Q ((R.ofO S o).bind f)) : ∃ a, o = some a ∧ Post G rel E φ η H Q (f a S) := by
  cases o with
  | none => exact (h : False).elim
  | some a => exact ⟨a, rfl, h⟩
/-- a value that is there already -/
theorem post_here {v : PV} {u : V} {Q : VK} (h : Post G (relV G) E φ η H Q (.ok v S)) (hs : StRep G φ η H S) (r : Rep G φ η H v u) : Q u H := h φ H u (.refl φ H) hs r
/-- what an operator leaves -/
theorem post_op {v : PV} {Q : VK} (h : Post G (relV G) E φ η H Q (.ok v S)) : ∀ H' w, Ext φ φ H H' → StRep G φ η H' S → Rep G φ η H' v w → Q w H' := fun H' w x hs r => h φ H' w x hs r
theorem n_var {N : List PySem.Str} {sc : Scope} {i : Nat} {x : PySem.Str} {p : Pos} (hN : X.N = N) (hsc : X.env.scope = sc) (h1 : N[i]? = some x) (h2 : visB sc x = true) (h3 : nmOk x = true) : PE X (.Name x p) (TEv G E fun ρ S => R.ofO S (ρ[i]?.join)) := by
  unfold nmOk at h3
  simp only [Bool.and_eq_true, Bool.not_eq_true'] at h3
  have hv : Vis X.env.scope x := by
    rw [hsc]
    unfold visB at h2
    split at h2
    · exact .inl (by assumption)
    · exact .inr (.inl (by assumption))
    · exact .inr (.inr (by assumption))
    · cases h2
  refine imp_PE (pe_var (i := i) (by rw [hN]; exact h1) hv h3.1.1 h3.1.2) fun σ H Q h => ?_
  obtain ⟨φ, η, ρ, S, hs, hρ, hp⟩ := h
  obtain ⟨v, e, hp⟩ := post_ofO hp
  have e2 : ρ[i]? = some (some v) := by
    cases q : ρ[i]? with
    | none => rw [q] at e; cases e
    | some o => cases o with
      | none => rw [q] at e; cases e
      | some w => rw [q] at e; cases e; rfl
  obtain ⟨u, e3, r⟩ := hρ.2 i v e2
  exact ⟨u, e3, post_here hp hs r⟩
theorem n_cst {e : Expr} {v : PV} {u : V} (h : PE X e (tC u)) (r : ∀ φ η H, Rep G φ η H v u) : PE X e (TEv G E fun _ S => .ok v S) :=
  imp_PE h fun σ H Q h => by
    obtain ⟨φ, η, ρ, S, hs, hρ, hp⟩ := h
    exact post_here hp hs (r φ η H)
theorem n_bin {op : BOp} {o : Operator} {a b : Expr} {ra rb : Pw.Env → PSt → R PV} {p : Pos} (ho : opB op o = true) (ha : PE X a (TEv G E ra)) (hb : PE X b (TEv G E rb)) :
    PE X (.BinOp a o b p) (TEv G E fun ρ S => (ra ρ S).bind fun x S => (rb ρ S).bind fun y S => R.ofO S (binV S op x y)) := by
  refine ⟨fun pins s σ H Q I h => ?_⟩
  obtain ⟨φ, η, ρ, S, hs, hρ, hp⟩ := h
  refine wpAny_BinOp (binT ha hb I (R := fun x y H2 => ∃ φ2 S2 v w c, StRep G φ2 η H2 S2 ∧ Rep G φ2 η H2 v x ∧ Rep G φ2 η H2 w y ∧ binV S2 op v w = some c ∧ ∀ H' u, Ext φ2 φ2 H2 H' → StRep G φ2 η H' S2 → Rep G φ2 η H' c u → Q u H') ?_ fun v u s2 x y H2 I2 rx ry q => ?_)
  · refine ⟨φ, η, ρ, S, hs, hρ, hp.bind (rel' := relV G) fun v S1 φ1 H1 x x1 hs1 rx hp1 => ?_⟩
    refine ⟨φ1, η, ρ, S1, hs1, hρ.mono x1, hp1.bind (rel' := relV G) fun w S2 φ2 H2 y x2 hs2 ry hp2 => ?_⟩
    obtain ⟨c, e, hp3⟩ := post_ofO hp2
    exact ⟨φ2, S2, v, w, c, hs2, rx.mono x2, ry, e, post_op hp3⟩
  · obtain ⟨φ2, S2, v', w', c, hs2, r1, r2, e, q⟩ := q
    exact opS_bin (G := G) ho φ2 η S2 v' w' c pins s2 σ H2 x y v u Q I2 rx ry hs2 r1 r2 e q
theorem n_neg {a : Expr} {ra : Pw.Env → PSt → R PV} {p : Pos} (ha : PE X a (TEv G E ra)) : PE X (.UnaryOp .USub a p) (TEv G E fun ρ S => (ra ρ S).bind fun x S => (match x with
    | .int i => .ok (.int (-i)) S
    | _ => .err)) :=
  imp_PE (pe_un un_neg ha) fun σ H Q h => by
    obtain ⟨φ, η, ρ, S, hs, hρ, hp⟩ := h
    refine ⟨φ, η, ρ, S, hs, hρ, hp.bind (rel' := relV G) fun v S1 φ1 H1 x x1 hs1 rx hp1 => ?_⟩
    cases v with
    | int i => exact ⟨i, rx, post_here hp1 hs1 rfl⟩
    | _ => exact (hp1 : False).elim
theorem n_not {a : Expr} {ra : Pw.Env → PSt → R PV} {p : Pos} (ha : PE X a (TEv G E ra)) : PE X (.UnaryOp .Not a p) (TEv G E fun ρ S => (ra ρ S).bind fun x S => (R.ofO S (truthy S x)).bind fun k S => .ok (.bl (!k)) S) :=
  imp_PE (pe_notT ha) fun σ H Q h => by
    obtain ⟨φ, η, ρ, S, hs, hρ, hp⟩ := h
    refine ⟨φ, η, ρ, S, hs, hρ, hp.bind (rel' := relV G) fun v S1 φ1 H1 x x1 hs1 rx hp1 => ?_⟩
    obtain ⟨k, e, hp2⟩ := post_ofO_bind hp1
    exact ⟨k, truS hs1 rx e X.K, post_here hp2 hs1 rfl⟩
theorem cmp_run {op : COp} {o : CmpOp} {a b : Expr} {ra rb : Pw.Env → PSt → R PV} (ho : opC op o = true) (hu : X.A.units + 66 < cLine) (ha : PE X a (TEv G E ra)) (hb : PE X b (TEv G E rb))
    {pins : List (Addr × Obj)} {s : Shared} {σ : L2.St} {H : Hp} (I : Inv X pins σ H s) {φ η : List Addr} {ρ : Pw.Env} {S : PSt} (hs : StRep G φ η H S) (hρ : ERep G φ η H ρ σ) {α β : Type} {rel : List Addr → List Addr → Hp → α → β → Prop} {f : Bool → PSt → R α} {Q : β → Hp → Prop}
    (hp : Post G rel E φ η H Q ((ra ρ S).bind fun x S => (rb ρ S).bind fun y S => (R.ofO S (cmpV S op x y)).bind f)) {Q' : VK}
    (hq : ∀ φ2 H2 S2 k, StRep G φ2 η H2 S2 → ERep G φ2 η H2 ρ σ → Post G rel E φ2 η H2 Q (f k S2) → Q' (.bl k) H2) :
    wpAny (model X.prog X.w) X.A (eval a X.env) (fun v s₁ => wpAny (model X.prog X.w) X.A (eval b X.env) (fun u s₂ => wpAny (model X.prog X.w) X.A (compareOp o v u) (EP X pins σ Q') X.xe s₂) X.xe s₁) X.xe s := by
  refine binT ha hb I (R := fun x y H2 => ∃ φ2 S2 v w k, StRep G φ2 η H2 S2 ∧ Rep G φ2 η H2 v x ∧ Rep G φ2 η H2 w y ∧ cmpV S2 op v w = some k ∧ Q' (.bl k) H2) ?_ fun v u s2 x y H2 I2 rx ry q => ?_
  · refine ⟨φ, η, ρ, S, hs, hρ, hp.bind (rel' := relV G) fun v S1 φ1 H1 x x1 hs1 rx hp1 => ?_⟩
    refine ⟨φ1, η, ρ, S1, hs1, hρ.mono x1, hp1.bind (rel' := relV G) fun w S2 φ2 H2 y x2 hs2 ry hp2 => ?_⟩
    obtain ⟨k, e, hp3⟩ := post_ofO_bind hp2
    exact ⟨φ2, S2, v, w, k, hs2, rx.mono x2, ry, e, hq φ2 H2 S2 k hs2 ((hρ.mono x1).mono x2) hp3⟩
  · obtain ⟨φ2, S2, v', w', k, hs2, r1, r2, e, q⟩ := q
    exact cmS_cmp (G := G) ho hu φ2 η S2 v' w' k pins s2 σ H2 x y v u Q' I2 rx ry hs2 r1 r2 e q
theorem ofO_map {α β : Type} (S : PSt) (o : Option α) (f : α → β) : R.ofO S (o.map f) = (R.ofO S o).bind fun a S => .ok (f a) S := by cases o <;> rfl
theorem bind_ok_id {α : Type} (r : R α) : (r.bind fun a S => .ok a S) = r := by cases r <;> rfl
theorem n_cmp {op : COp} {o : CmpOp} {a b : Expr} {ra rb : Pw.Env → PSt → R PV} {p : Pos} (ho : opC op o = true) (hm : behindInMarks o b = false) (hu : X.A.units + 66 < cLine) (ha : PE X a (TEv G E ra)) (hb : PE X b (TEv G E rb)) :
    PE X (.Compare a [o] [b] p) (TEv G E fun ρ S => (ra ρ S).bind fun x S => (rb ρ S).bind fun y S => R.ofO S ((cmpV S op x y).map .bl)) := by
  refine ⟨fun pins s σ H Q I h => ?_⟩
  obtain ⟨φ, η, ρ, S, hs, hρ, hp⟩ := h
  simp only [ofO_map] at hp
  exact wpAny_Compare1 (cmp_run ho hu ha hb I hs hρ hp fun φ2 H2 S2 k hs2 _ hp2 => post_here hp2 hs2 rfl) hm
theorem t_cmp {op : COp} {o : CmpOp} {a b : Expr} {ra rb : Pw.Env → PSt → R PV} {p : Pos} (ho : opC op o = true) (hm : behindInMarks o b = false) (hu : X.A.units + 66 < cLine) (ha : PE X a (TEv G E ra)) (hb : PE X b (TEv G E rb)) :
    PT X (.Compare a [o] [b] p) (TTv G E fun ρ S => (ra ρ S).bind fun x S => (rb ρ S).bind fun y S => R.ofO S (cmpV S op x y)) := by
  refine ⟨fun pins s σ H Q I h => ?_⟩
  obtain ⟨φ, η, ρ, S, hs, hρ, hp⟩ := h
  have hp : Post G relB E φ η H Q ((ra ρ S).bind fun x S => (rb ρ S).bind fun y S => (R.ofO S (cmpV S op x y)).bind fun k S => .ok k S) := by simp only [bind_ok_id]; exact hp
  refine wpAny_isTrue_Compare1 (thn (cmp_run ho hu ha hb I hs hρ hp (Q' := fun x H' => ∃ k, x = .bl k ∧ Q k H') fun φ2 H2 S2 k hs2 _ hp2 => ⟨k, rfl, hp2 φ2 H2 k (.refl _ _) hs2 rfl⟩) fun v s1 h1 => thn h1 fun u s2 h2 => thn h2 fun c s3 ⟨x, H1, I1, r1, q1⟩ => ?_) hm
  obtain ⟨d, rfl, q⟩ := q1
  cases r1
  exact wpAny_truthy_bool ⟨H1, I1, q⟩
theorem n_chain {o1 o2 : COp} {p1 p2 : CmpOp} {a b c : Expr} {ra rb rc : Pw.Env → PSt → R PV} {p : Pos} (h1 : opC o1 p1 = true) (h2 : opC o2 p2 = true) (hm : lastMarks [p1, p2] [b, c] = false) (hu : X.A.units + 66 < cLine) (ha : PE X a (TEv G E ra)) (hb : PE X b (TEv G E rb)) (hc : PE X c (TEv G E rc)) :
    PE X (.Compare a [p1, p2] [b, c] p) (TEv G E fun ρ S => (ra ρ S).bind fun x S => (rb ρ S).bind fun y S => (R.ofO S (cmpV S o1 x y)).bind fun k S => if k = true then (rc ρ S).bind fun z S => R.ofO S ((cmpV S o2 y z).map .bl) else .ok (.bl false) S) := by
  refine ⟨fun pins s σ H Q I h => ?_⟩
  obtain ⟨φ, η, ρ, S, hs, hρ, hp⟩ := h
  have hA := ha.run pins s σ H (fun x H1 => ∃ φ1 S1 v, StRep G φ1 η H1 S1 ∧ ERep G φ1 η H1 ρ σ ∧ Rep G φ1 η H1 v x ∧ Post G (relV G) E φ1 η H1 Q ((rb ρ S1).bind fun y S => (R.ofO S (cmpV S o1 v y)).bind fun k S => if k = true then (rc ρ S).bind fun z S => R.ofO S ((cmpV S o2 y z).map .bl) else .ok (.bl false) S)) I
    ⟨φ, η, ρ, S, hs, hρ, hp.bind (rel' := relV G) fun v S1 φ1 H1 x x1 hs1 rx hp1 => ⟨φ1, S1, v, hs1, hρ.mono x1, rx, hp1⟩⟩
  refine Compare_chain (thn hA fun v s1 ⟨x, H1, I1, r1, φ1, S1, pv, hs1, hρ1, rv, hp1⟩ => chain_link ?_) hm
  have hB := hb.run pins s1 σ H1 (fun y H2 => ∃ φ2 S2 w, StRep G φ2 η H2 S2 ∧ ERep G φ2 η H2 ρ σ ∧ Rep G φ2 η H2 pv x ∧ Rep G φ2 η H2 w y ∧ Post G (relV G) E φ2 η H2 Q ((R.ofO S2 (cmpV S2 o1 pv w)).bind fun k S => if k = true then (rc ρ S).bind fun z S => R.ofO S ((cmpV S o2 w z).map .bl) else .ok (.bl false) S)) I1
    ⟨φ1, η, ρ, S1, hs1, hρ1, hp1.bind (rel' := relV G) fun w S2 φ2 H2 y x2 hs2 ry hp2 => ⟨φ2, S2, w, hs2, hρ1.mono x2, rv.mono x2, ry, hp2⟩⟩
  refine thn hB fun u s2 ⟨y, H2, I2, r2, φ2, S2, pw, hs2, hρ2, rv2, rw2, hp2⟩ => ?_
  obtain ⟨k, e, hp3⟩ := post_ofO_bind hp2
  refine thn (cmS_cmp (G := G) h1 hu φ2 η S2 pv pw k pins s2 σ H2 x y v u (fun z H3 => z = .bl k ∧ H3 = H2) I2 r1 r2 hs2 rv2 rw2 e ⟨rfl, rfl⟩) fun d s3 ⟨z, H3, I3, r3, ez, eH⟩ => ?_
  subst ez
  rw [eH] at I3
  cases r3
  refine wpAny_truthy_bool ?_
  cases k with
  | false => exact ite_ff ⟨.bl false, H2, I3, rfl, post_here hp3 hs2 rfl⟩
  | true =>
    refine ite_tt (chain_last ?_)
    have hC := hc.run pins s3 σ H2 (fun z H4 => ∃ φ4 S4 q k2, StRep G φ4 η H4 S4 ∧ Rep G φ4 η H4 pw y ∧ Rep G φ4 η H4 q z ∧ cmpV S4 o2 pw q = some k2 ∧ Q (.bl k2) H4) I3
      ⟨φ2, η, ρ, S2, hs2, hρ2, hp3.bind (rel' := relV G) fun q S4 φ4 H4 z x4 hs4 rq hp4 => by
        simp only [ofO_map] at hp4
        obtain ⟨k2, e2, hp5⟩ := post_ofO_bind hp4
        exact ⟨φ4, S4, q, k2, hs4, rw2.mono x4, rq, e2, post_here hp5 hs4 rfl⟩⟩
    exact thn hC fun w' s4 ⟨z', H4, I4, r4, φ4, S4, q, k2, hs4, q1, q2, e2, q3⟩ => cmS_cmp (G := G) h2 hu φ4 η S4 pw q k2 pins s4 σ H4 y z' u w' Q I4 r2 r4 hs4 q1 q2 e2 q3
theorem t_chain {o1 o2 : COp} {p1 p2 : CmpOp} {a b c : Expr} {ra rb rc : Pw.Env → PSt → R PV} {p : Pos} (h1 : opC o1 p1 = true) (h2 : opC o2 p2 = true) (hm : lastMarks [p1, p2] [b, c] = false) (hu : X.A.units + 66 < cLine) (ha : PE X a (TEv G E ra)) (hb : PE X b (TEv G E rb)) (hc : PE X c (TEv G E rc)) :
    PT X (.Compare a [p1, p2] [b, c] p) (TTv G E fun ρ S => (ra ρ S).bind fun x S => (rb ρ S).bind fun y S => (R.ofO S (cmpV S o1 x y)).bind fun k S => if k = true then (rc ρ S).bind fun z S => R.ofO S (cmpV S o2 y z) else .ok false S) := by
  refine ⟨fun pins s σ H Q I h => ?_⟩
  obtain ⟨φ, η, ρ, S, hs, hρ, hp⟩ := h
  have hA := ha.run pins s σ H (fun x H1 => ∃ φ1 S1 v, StRep G φ1 η H1 S1 ∧ ERep G φ1 η H1 ρ σ ∧ Rep G φ1 η H1 v x ∧ Post G relB E φ1 η H1 Q ((rb ρ S1).bind fun y S => (R.ofO S (cmpV S o1 v y)).bind fun k S => if k = true then (rc ρ S).bind fun z S => R.ofO S (cmpV S o2 y z) else .ok false S)) I
    ⟨φ, η, ρ, S, hs, hρ, hp.bind (rel' := relV G) fun v S1 φ1 H1 x x1 hs1 rx hp1 => ⟨φ1, S1, v, hs1, hρ.mono x1, rx, hp1⟩⟩
  refine isTrue_chain (thn hA fun v s1 ⟨x, H1, I1, r1, φ1, S1, pv, hs1, hρ1, rv, hp1⟩ => test_link ?_) hm
  have hB := hb.run pins s1 σ H1 (fun y H2 => ∃ φ2 S2 w, StRep G φ2 η H2 S2 ∧ ERep G φ2 η H2 ρ σ ∧ Rep G φ2 η H2 pv x ∧ Rep G φ2 η H2 w y ∧ Post G relB E φ2 η H2 Q ((R.ofO S2 (cmpV S2 o1 pv w)).bind fun k S => if k = true then (rc ρ S).bind fun z S => R.ofO S (cmpV S o2 w z) else .ok false S)) I1
    ⟨φ1, η, ρ, S1, hs1, hρ1, hp1.bind (rel' := relV G) fun w S2 φ2 H2 y x2 hs2 ry hp2 => ⟨φ2, S2, w, hs2, hρ1.mono x2, rv.mono x2, ry, hp2⟩⟩
  refine thn hB fun u s2 ⟨y, H2, I2, r2, φ2, S2, pw, hs2, hρ2, rv2, rw2, hp2⟩ => ?_
  obtain ⟨k, e, hp3⟩ := post_ofO_bind hp2
  refine thn (cmS_cmp (G := G) h1 hu φ2 η S2 pv pw k pins s2 σ H2 x y v u (fun z H3 => z = .bl k ∧ H3 = H2) I2 r1 r2 hs2 rv2 rw2 e ⟨rfl, rfl⟩) fun d s3 ⟨z, H3, I3, r3, ez, eH⟩ => ?_
  subst ez
  rw [eH] at I3
  cases r3
  refine wpAny_truthy_bool ?_
  cases k with
  | false => exact ite_ff ⟨H2, I3, hp3 φ2 H2 false (.refl _ _) hs2 rfl⟩
  | true =>
    refine ite_tt (test_last ?_)
    have hC := hc.run pins s3 σ H2 (fun z H4 => ∃ φ4 S4 q k2, StRep G φ4 η H4 S4 ∧ Rep G φ4 η H4 pw y ∧ Rep G φ4 η H4 q z ∧ cmpV S4 o2 pw q = some k2 ∧ Q k2 H4) I3
      ⟨φ2, η, ρ, S2, hs2, hρ2, hp3.bind (rel' := relV G) fun q S4 φ4 H4 z x4 hs4 rq hp4 => by
        obtain ⟨k2, e2, hp5⟩ := post_ofO hp4
        exact ⟨φ4, S4, q, k2, hs4, rw2.mono x4, rq, e2, hp5 φ4 H4 k2 (.refl _ _) hs4 rfl⟩⟩
    exact thn hC fun w' s4 ⟨z', H4, I4, r4, φ4, S4, q, k2, hs4, q1, q2, e2, q3⟩ =>
      thn (cmS_cmp (G := G) h2 hu φ4 η S4 pw q k2 pins s4 σ H4 y z' u w' (fun z H3 => z = .bl k2 ∧ Q k2 H3) I4 r2 r4 hs4 q1 q2 e2 ⟨rfl, q3⟩) fun d' s5 ⟨z2, H5, I5, r5, ez2, q5⟩ => by
        subst ez2
        cases r5
        exact wpAny_truthy_bool ⟨H5, I5, q5⟩
theorem n_and {a b : Expr} {rest : List Expr} {ra rb : Pw.Env → PSt → R PV} {p : Pos} (ha : PE X a (TEv G E ra)) (hb : PE X (.BoolOp .And (b :: rest) p) (TEv G E rb)) :
    PE X (.BoolOp .And (a :: b :: rest) p) (TEv G E fun ρ S => (ra ρ S).bind fun x S => (R.ofO S (truthy S x)).bind fun k S => if k = true then rb ρ S else .ok x S) :=
  imp_PE (pe_andT ha hb) fun σ H Q h => by
    obtain ⟨φ, η, ρ, S, hs, hρ, hp⟩ := h
    refine ⟨φ, η, ρ, S, hs, hρ, hp.bind (rel' := relV G) fun v S1 φ1 H1 x x1 hs1 rx hp1 => ?_⟩
    obtain ⟨k, e, hp2⟩ := post_ofO_bind hp1
    refine ⟨k, truS hs1 rx e X.K, ?_⟩
    cases k with
    | true => exact iteT ⟨φ1, η, ρ, S1, hs1, hρ.mono x1, hp2⟩
    | false => exact iteF (post_here hp2 hs1 rx)
theorem n_or {a b : Expr} {rest : List Expr} {ra rb : Pw.Env → PSt → R PV} {p : Pos} (ha : PE X a (TEv G E ra)) (hb : PE X (.BoolOp .Or (b :: rest) p) (TEv G E rb)) :
    PE X (.BoolOp .Or (a :: b :: rest) p) (TEv G E fun ρ S => (ra ρ S).bind fun x S => (R.ofO S (truthy S x)).bind fun k S => if k = true then .ok x S else rb ρ S) :=
  imp_PE (pe_orT ha hb) fun σ H Q h => by
    obtain ⟨φ, η, ρ, S, hs, hρ, hp⟩ := h
    refine ⟨φ, η, ρ, S, hs, hρ, hp.bind (rel' := relV G) fun v S1 φ1 H1 x x1 hs1 rx hp1 => ?_⟩
    obtain ⟨k, e, hp2⟩ := post_ofO_bind hp1
    refine ⟨k, truS hs1 rx e X.K, ?_⟩
    cases k with
    | false => exact iteF ⟨φ1, η, ρ, S1, hs1, hρ.mono x1, hp2⟩
    | true => exact iteT (post_here hp2 hs1 rx)
theorem w_and {a b : Expr} {rest : List Expr} {ra rb : Pw.Env → PSt → R Bool} {p : Pos} (ha : PT X a (TTv G E ra)) (hb : PW X (.BoolOp .And (b :: rest) p) (TTv G E rb)) :
    PW X (.BoolOp .And (a :: b :: rest) p) (TTv G E fun ρ S => (ra ρ S).bind fun k S => if k = true then rb ρ S else .ok false S) :=
  imp_PW (pw_and ha hb) fun σ H Q h => by
    obtain ⟨φ, η, ρ, S, hs, hρ, hp⟩ := h
    refine ⟨φ, η, ρ, S, hs, hρ, hp.bind (rel' := relB) fun v S1 φ1 H1 x x1 hs1 rx hp1 => ?_⟩
    cases (show v = x from rx)
    cases v with
    | true => exact iteT ⟨φ1, η, ρ, S1, hs1, hρ.mono x1, hp1⟩
    | false => exact iteF (hp1 φ1 H1 false (.refl _ _) hs1 rfl)
theorem w_or {a b : Expr} {rest : List Expr} {ra rb : Pw.Env → PSt → R Bool} {p : Pos} (ha : PT X a (TTv G E ra)) (hb : PW X (.BoolOp .Or (b :: rest) p) (TTv G E rb)) :
    PW X (.BoolOp .Or (a :: b :: rest) p) (TTv G E fun ρ S => (ra ρ S).bind fun k S => if k = true then .ok true S else rb ρ S) :=
  imp_PW (pw_or ha hb) fun σ H Q h => by
    obtain ⟨φ, η, ρ, S, hs, hρ, hp⟩ := h
    refine ⟨φ, η, ρ, S, hs, hρ, hp.bind (rel' := relB) fun v S1 φ1 H1 x x1 hs1 rx hp1 => ?_⟩
    cases (show v = x from rx)
    cases v with
    | false => exact iteF ⟨φ1, η, ρ, S1, hs1, hρ.mono x1, hp1⟩
    | true => exact iteT (hp1 φ1 H1 true (.refl _ _) hs1 rfl)
theorem t_not {a : Expr} {ra : Pw.Env → PSt → R Bool} {p : Pos} (ha : PT X a (TTv G E ra)) : PT X (.UnaryOp .Not a p) (TTv G E fun ρ S => (ra ρ S).bind fun b S => .ok (!b) S) :=
  imp_PT (pt_not ha) fun σ H Q h => by
    obtain ⟨φ, η, ρ, S, hs, hρ, hp⟩ := h
    refine ⟨φ, η, ρ, S, hs, hρ, hp.bind (rel' := relB) fun v S1 φ1 H1 x x1 hs1 rx hp1 => ?_⟩
    cases (show v = x from rx)
    exact hp1 φ1 H1 (!v) (.refl _ _) hs1 rfl
/-- a test that is a value's truth -/
theorem t_val {e : Expr} {re : Pw.Env → PSt → R PV} (he : PE X e (TEv G E re)) (hf : ∀ whole, isTrue e X.env whole = (do let v ← whole; standAt e.pos; holding [v] (PySem.truthy v))) : PT X e (TTv G E fun ρ S => (re ρ S).bind fun x S => R.ofO S (truthy S x)) :=
  imp_PT (pt_truth he hf) fun σ H Q h => by
    obtain ⟨φ, η, ρ, S, hs, hρ, hp⟩ := h
    refine ⟨φ, η, ρ, S, hs, hρ, hp.bind (rel' := relV G) fun v S1 φ1 H1 x x1 hs1 rx hp1 => ?_⟩
    obtain ⟨k, e, hp2⟩ := post_ofO hp1
    exact ⟨k, truS hs1 rx e X.K, hp2 φ1 H1 k (.refl _ _) hs1 rfl⟩
theorem n_ife {c a b : Expr} {rc : Pw.Env → PSt → R Bool} {ra rb : Pw.Env → PSt → R PV} {p : Pos} (hc : PT X c (TTv G E rc)) (ha : PE X a (TEv G E ra)) (hb : PE X b (TEv G E rb)) :
    PE X (.IfExp c a b p) (TEv G E fun ρ S => (rc ρ S).bind fun k S => if k = true then ra ρ S else rb ρ S) :=
  imp_PE (pe_ifExp hc ha hb) fun σ H Q h => by
    obtain ⟨φ, η, ρ, S, hs, hρ, hp⟩ := h
    refine ⟨φ, η, ρ, S, hs, hρ, hp.bind (rel' := relB) fun v S1 φ1 H1 x x1 hs1 rx hp1 => ?_⟩
    cases (show v = x from rx)
    cases v with
    | true => exact iteT ⟨φ1, η, ρ, S1, hs1, hρ.mono x1, hp1⟩
    | false => exact iteF ⟨φ1, η, ρ, S1, hs1, hρ.mono x1, hp1⟩
theorem n_idx {a b : Expr} {ra rb : Pw.Env → PSt → R PV} {p : Pos} (hKx : X.K = G.K) (hi : okE b = true) (ha : PE X a (TEv G E ra)) (hb : PE X b (TEv G E rb)) :
    PE X (.Subscript a b p) (TEv G E fun ρ S => (ra ρ S).bind fun x S => (rb ρ S).bind fun y S => R.ofO S (idxV S x y)) := by
  refine ⟨fun pins s σ H Q I h => ?_⟩
  obtain ⟨φ, η, ρ, S, hs, hρ, hp⟩ := h
  refine Subscript_ (binT ha hb I (R := fun x y H2 => ∃ φ2 S2 v w c, StRep G φ2 η H2 S2 ∧ Rep G φ2 η H2 v x ∧ Rep G φ2 η H2 w y ∧ idxV S2 v w = some c ∧ ∀ u, Rep G φ2 η H2 c u → Q u H2) ?_ fun v u s2 x y H2 I2 rx ry q => ?_)
  · refine ⟨φ, η, ρ, S, hs, hρ, hp.bind (rel' := relV G) fun v S1 φ1 H1 x x1 hs1 rx hp1 => ?_⟩
    refine ⟨φ1, η, ρ, S1, hs1, hρ.mono x1, hp1.bind (rel' := relV G) fun w S2 φ2 H2 y x2 hs2 ry hp2 => ?_⟩
    obtain ⟨c, e, hp3⟩ := post_ofO hp2
    exact ⟨φ2, S2, v, w, c, hs2, rx.mono x2, ry, e, fun u r => post_here hp3 hs2 r⟩
  · obtain ⟨φ2, S2, v', w', c, hs2, r1, r2, e, q⟩ := q
    exact ixS hKx b (okE_ix hi) a φ2 η S2 v' w' c pins s2 σ H2 x y v u Q I2 rx ry hs2 r1 r2 e q
def rSl (G : Gr) : V → Option Int → Option Int → Hp → VK → Prop := fun x lo hi H Q => ∃ φ1 η S1 v c, StRep G φ1 η H S1 ∧ Rep G φ1 η H v x ∧ sliceV S1 v lo hi = some c ∧ ∀ H' w, Ext φ1 φ1 H H' → StRep G φ1 η H' S1 → Rep G φ1 η H' c w → Q w H'
theorem sl_all : SlR X (rSl G) := by
  intro pins s σ H x v vl vu lo hi sl Q I rx hs pl pu h
  obtain ⟨φ1, η, S1, v', c, q⟩ := h
  exact slS φ1 η S1 v' c pins s σ H x v vl vu lo hi sl Q I rx hs pl pu q
theorem n_sl {a lo hi : Expr} {ra rl rh : Pw.Env → PSt → R PV} {p p2 : Pos} (ha : PE X a (TEv G E ra)) (hl : PE X lo (TEv G E rl)) (hh : PE X hi (TEv G E rh)) :
    PE X (.Subscript a (.Slice (some lo) (some hi) none p2) p) (TEv G E fun ρ S => (ra ρ S).bind fun x S => (rl ρ S).bind fun y S => (match y with
    | .int i => (rh ρ S).bind fun z S => (match z with
      | .int j => R.ofO S (sliceV S x (some i) (some j))
      | _ => .err)
    | _ => .err)) :=
  imp_PE (pe_slice (sl_all (G := G)) ha (po_some hl) (po_some hh)) fun σ H Q h => by
    obtain ⟨φ, η, ρ, S, hs, hρ, hp⟩ := h
    refine ⟨φ, η, ρ, S, hs, hρ, hp.bind (rel' := relV G) fun v S1 φ1 H1 x x1 hs1 rx hp1 => ?_⟩
    refine ⟨φ1, η, ρ, S1, hs1, hρ.mono x1, hp1.bind (rel' := relV G) fun y S2 φ2 H2 yv x2 hs2 ry hp2 => ?_⟩
    cases y with
    | int i =>
      refine ⟨i, ry, φ2, η, ρ, S2, hs2, (hρ.mono x1).mono x2, hp2.bind (rel' := relV G) fun z S3 φ3 H3 zv x3 hs3 rz hp3 => ?_⟩
      cases z with
      | int j =>
        refine ⟨j, rz, ?_⟩
        obtain ⟨c, e, hp4⟩ := post_ofO hp3
        exact ⟨φ3, η, S3, v, c, hs3, (rx.mono x2).mono x3, e, post_op hp4⟩
      | _ => exact (hp3 : False).elim
    | _ => exact (hp2 : False).elim
theorem n_slf {a lo : Expr} {ra rl : Pw.Env → PSt → R PV} {p p2 : Pos} (ha : PE X a (TEv G E ra)) (hl : PE X lo (TEv G E rl)) :
    PE X (.Subscript a (.Slice (some lo) none none p2) p) (TEv G E fun ρ S => (ra ρ S).bind fun x S => (rl ρ S).bind fun y S => (match y with
    | .int i => R.ofO S (sliceV S x (some i) none)
    | _ => .err)) :=
  imp_PE (pe_slice (sl_all (G := G)) ha (po_some hl) po_none) fun σ H Q h => by
    obtain ⟨φ, η, ρ, S, hs, hρ, hp⟩ := h
    refine ⟨φ, η, ρ, S, hs, hρ, hp.bind (rel' := relV G) fun v S1 φ1 H1 x x1 hs1 rx hp1 => ?_⟩
    refine ⟨φ1, η, ρ, S1, hs1, hρ.mono x1, hp1.bind (rel' := relV G) fun y S2 φ2 H2 yv x2 hs2 ry hp2 => ?_⟩
    cases y with
    | int i =>
      obtain ⟨c, e, hp4⟩ := post_ofO hp2
      exact ⟨i, ry, φ2, η, S2, v, c, hs2, rx.mono x2, e, post_op hp4⟩
    | _ => exact (hp2 : False).elim
theorem n_slt {a hi : Expr} {ra rh : Pw.Env → PSt → R PV} {p p2 : Pos} (ha : PE X a (TEv G E ra)) (hh : PE X hi (TEv G E rh)) :
    PE X (.Subscript a (.Slice none (some hi) none p2) p) (TEv G E fun ρ S => (ra ρ S).bind fun x S => (rh ρ S).bind fun y S => (match y with
    | .int i => R.ofO S (sliceV S x none (some i))
    | _ => .err)) :=
  imp_PE (pe_slice (sl_all (G := G)) ha po_none (po_some hh)) fun σ H Q h => by
    obtain ⟨φ, η, ρ, S, hs, hρ, hp⟩ := h
    refine ⟨φ, η, ρ, S, hs, hρ, hp.bind (rel' := relV G) fun v S1 φ1 H1 x x1 hs1 rx hp1 => ?_⟩
    refine ⟨φ1, η, ρ, S1, hs1, hρ.mono x1, hp1.bind (rel' := relV G) fun y S2 φ2 H2 yv x2 hs2 ry hp2 => ?_⟩
    cases y with
    | int i =>
      obtain ⟨c, e, hp4⟩ := post_ofO hp2
      exact ⟨i, ry, φ2, η, S2, v, c, hs2, rx.mono x2, e, post_op hp4⟩
    | _ => exact (hp2 : False).elim
/-! ### arguments, displays -/
theorem a_nil : PA X [] (TAv G E fun _ S => .ok [] S) := imp_PA pa_nil fun σ H Q h => by
  obtain ⟨φ, η, ρ, S, hs, hρ, hp⟩ := h
  exact hp φ H [] (.refl _ _) hs rfl
theorem a_cons {e : Expr} {es : List Expr} {re : Pw.Env → PSt → R PV} {rs : Pw.Env → PSt → R (List PV)} (ho : okE e = true) (he : PE X e (TEv G E re)) (hs : PA X es (TAv G E rs)) :
    PA X (e :: es) (TAv G E fun ρ S => (re ρ S).bind fun v S => (rs ρ S).bind fun vs S => .ok (v :: vs) S) :=
  imp_PA (pa_cons he hs (okE_star ho)) fun σ H Q h => by
    obtain ⟨φ, η, ρ, S, hs, hρ, hp⟩ := h
    refine ⟨φ, η, ρ, S, hs, hρ, hp.bind (rel' := relV G) fun v S1 φ1 H1 x x1 hs1 rx hp1 => ?_⟩
    refine ⟨φ1, η, ρ, S1, hs1, hρ.mono x1, hp1.bind (rel' := relVs G) fun vs S2 φ2 H2 xs x2 hs2 rxs hp2 => ?_⟩
    exact hp2 φ2 H2 (x :: xs) (.refl _ _) hs2 ⟨x, xs, rfl, rx.mono x2, rxs⟩
theorem n_tup {es : List Expr} {k : Nat} {p : Pos} {rs : Pw.Env → PSt → R (List PV)} (hs : PA X es (TAv G E rs)) (hl : es.length ≤ 1000) (hlen : ∀ ρ S vs S', rs ρ S = .ok vs S' → vs.length = es.length) :
    PE X (.Tuple es k p) (TEv G E fun ρ S => (rs ρ S).bind fun vs S => .ok (.tup vs) S) :=
  imp_PE (pe_tup hs) fun σ H Q h => by
    obtain ⟨φ, η, ρ, S, hs, hρ, hp⟩ := h
    refine ⟨φ, η, ρ, S, hs, hρ, ?_⟩
    try dsimp only at hp
    try dsimp only
    cases q : rs ρ S with
    | ok vs S1 =>
      rw [q] at hp
      intro φ1 H1 us x1 hs1 rs1
      refine ⟨by rw [← rs1.length, hlen ρ S vs S1 q, lim_eq]; exact Nat.le_trans hl (by decide), fun a ha => ?_⟩
      exact hp φ1 _ _ (x1.trans (.new ha)) (hs1.new ha) (rep_newT hs1 ha rs1)
    | exc c vs S1 => rw [q] at hp; exact hp
    | err => rw [q] at hp; exact hp
theorem l_disp {es : List Expr} {p : Pos} {rs : Pw.Env → PSt → R (List PV)} (hs : PA X es (TAv G E rs)) (hl : es.length ≤ 1000) (hlen : ∀ ρ S vs S', rs ρ S = .ok vs S' → vs.length = es.length) :
    PE X (.List es p) (TLv G E rs) :=
  imp_PE (pe_lst hs) fun σ H Q h => by
    obtain ⟨φ, η, ρ, S, hs, hρ, hp⟩ := h
    refine ⟨φ, η, ρ, S, hs, hρ, ?_⟩
    try dsimp only at hp
    try dsimp only
    cases q : rs ρ S with
    | ok vs S1 =>
      rw [q] at hp
      intro φ1 H1 us x1 hs1 rs1
      exact ⟨by rw [← rs1.length, hlen ρ S vs S1 q, lim_eq]; exact Nat.le_trans hl (by decide), fun a ha => hp φ1 H1 us x1 hs1 rs1 a ha⟩
    | exc c vs S1 => rw [q] at hp; exact hp
    | err => rw [q] at hp; exact hp
/-- a new list that nobody changes -/
theorem n_fl {e : Expr} {rl : Pw.Env → PSt → R (List PV)} (h : PE X e (TLv G E rl)) : PE X e (TEv G E fun ρ S => (rl ρ S).bind fun vs S => .ok (.lst vs) S) :=
  imp_PE h fun σ H Q h => by
    obtain ⟨φ, η, ρ, S, hs, hρ, hp⟩ := h
    refine ⟨φ, η, ρ, S, hs, hρ, ?_⟩
    try dsimp only at hp
    try dsimp only
    cases q : rl ρ S with
    | ok vs S1 =>
      rw [q] at hp
      exact fun φ1 H1 us x1 hs1 rs1 p hn => hp φ1 _ _ (x1.trans (.new hn)) (hs1.new hn) (rep_newL hs1 hn rs1)
    | exc c vs S1 => rw [q] at hp; exact hp
    | err => rw [q] at hp; exact hp
/-- a new list as an object of the store -/
theorem n_nl {e : Expr} {rl : Pw.Env → PSt → R (List PV)} (h : PE X e (TLv G E rl)) : PE X e (TEv G E fun ρ S => (rl ρ S).bind fun vs S => .ok (.ref S.length) (S ++ [.lst vs])) :=
  imp_PE h fun σ H Q h => by
    obtain ⟨φ, η, ρ, S, hs, hρ, hp⟩ := h
    refine ⟨φ, η, ρ, S, hs, hρ, ?_⟩
    try dsimp only at hp
    try dsimp only
    cases q : rl ρ S with
    | ok vs S1 =>
      rw [q] at hp
      exact fun φ1 H1 us x1 hs1 rs1 p hn => hp (φ1 ++ [p]) _ _ (x1.trans (.newS hn)) (hs1.newS hn rs1) ⟨p, by rw [← hs1.len]; simp, rfl⟩
    | exc c vs S1 => rw [q] at hp; exact hp
    | err => rw [q] at hp; exact hp
end
end Pw
/-! Pw10: calls and the makers of lists. -/
namespace Pw
open PySem PySem.Spec PyProof.Rows L2
/-- what a place of the walk must offer: the ground, the names, the room for calls, what becomes of errors -/
structure Tab (G : Gr) (W : Row) (d : Nat) : Prop where
  okF : ∀ f, W.okF f = true → G.okF f = true
  okX : ∀ c, W.okX c = true → G.okX c = true
  fn : ∀ f, G.okF f = true → ∃ (a : Addr) (fd : FuncData) (ps : List PySem.Str), G.mg f.py = some (.ref a) ∧ PySem.W.keepIn G.K (.ref a) = true ∧ Binds G.K fd ps [] ∧ FnOk G.P G.w G.K G.mg G.base (L2N.CX G.P G.w) (4 * d) a fd ps (spOf G d f)
  bn : ∀ x, W.bn.contains x = true → G.mg x = none
  mw : ∃ t, G.mg "MOST_WIDE" = some (.int 1000000 t)
  xc : ∀ c : XC, W.okX c = true → ∃ a, G.mg c.py = some (.ref a) ∧ PySem.W.keepIn G.K (.ref a) = true ∧ PySem.W.subIn G.K (.ref a) (.type "BaseException") = some true ∧ PySem.W.typeIn G.K (.ref a) = some (.type "type") ∧ (plainX c = true → PySem.W.excIn G.K a [.type "ValueError", .type "Exception", .type "BaseException", .type "object"] "ValueError.__new__" = true)
/-- the code object of a def within which lambdas are made -/
def CodOk (G : Gr) (code : Value) (q : PySem.Str) : Prop := ∃ cc P, code = .ref cc ∧ LamX.TabB G.base G.mg cc P ∧ (P, q ++ "<lambda>") ∈ G.Ts ∧ ∀ p ∈ G.Ts, p.1 = P → p.2 = q ++ "<lambda>"
structure Cz (G : Gr) (W : Row) (d : Nat) (N : List PySem.Str) (sc : Scope) (E : XK) (X : Cx) : Prop where
  hP : X.prog = G.P
  hw : X.w = G.w
  hK : X.K = G.K
  hmg : X.mg = G.mg
  hb : X.base = G.base
  hN : X.N = N
  nd : N.Nodup
  hsc : X.env.scope = sc
  kind : sc.kind = .function
  calm : X.calm = true
  room : Room (4 * d + if W.lam = true then 1 else 3) X.A
  pass : Passes (L2N.CX X.prog X.w) X E
  tab : Tab G W d
  cod : W.lam = true ∨ CodOk G X.env.code X.env.qual
theorem Cz.room0 {G : Gr} {W : Row} {d : Nat} {N : List PySem.Str} {sc : Scope} {E : XK} {X : Cx} (c : Cz G W d N sc E X) : Room (4 * d) X.A := c.room.mono (by omega)
theorem Cz.hu {G : Gr} {W : Row} {d : Nat} {N : List PySem.Str} {sc : Scope} {E : XK} {X : Cx} (c : Cz G W d N sc E X) : X.A.units + 66 < cLine := by
  have := c.room0.un
  omega
theorem gl_of {sc : Scope} {X : Cx} {x : PySem.Str} (h : X.env.scope = sc) (g : glB sc x = true) : Gl X x := by
  show X.env.scope.names.lookup x = some .globalImplicit
  rw [h]
  unfold glB at g
  split at g
  · assumption
  · cases g
theorem nm_parts {x : PySem.Str} (h : nmOk x = true) : (x == ("__debug__" : PySem.Str)) = false ∧ (x == ("__classdict__" : PySem.Str)) = false ∧ x ≠ ("__name__" : PySem.Str) := by
  unfold nmOk at h
  simp only [Bool.and_eq_true, Bool.not_eq_true', decide_eq_false_iff_not] at h
  exact ⟨h.1.1, h.1.2, h.2⟩
section
variable {G : Gr} {W : Row} {d : Nat} {N : List PySem.Str} {sc : Scope} {E : XK} {X : Cx} {φ η : List Addr} {H : Hp} {S : PSt}
theorem blt_parts {x y : PySem.Str} (c : Cz G W d N sc E X) (h : bltB W sc x y = true) : x = y ∧ Gl X x ∧ X.mg x = none ∧ (x == ("__debug__" : PySem.Str)) = false ∧ x ≠ ("__name__" : PySem.Str) := by
  unfold bltB at h
  simp only [Bool.and_eq_true, decide_eq_true_eq] at h
  obtain ⟨⟨⟨h1, h2⟩, h3⟩, h4⟩ := h
  obtain ⟨n1, _, n3⟩ := nm_parts h4
  exact ⟨h1, gl_of c.hsc h2, by rw [c.hmg]; exact c.tab.bn x h3, n1, n3⟩
theorem post_run {f : F} {ps : List PV} {Q : VK} (h : Post G (relV G) E φ η H Q (run G.T d f ps S)) : ps.length = (G.T f).np := by
  cases d with
  | zero => exact (h : False).elim
  | succ d =>
    unfold run at h
    by_cases q : ps.length = (G.T f).np
    · exact q
    · rw [if_neg q] at h
      exact (h : False).elim
theorem n_fn (c : Cz G W d N sc E X) {f : F} {x : PySem.Str} {p : Pos} (h1 : x = f.py) (h2 : glB sc x = true) (h3 : W.okF f = true) (h4 : nmOk x = true) : PE X (.Name x p) (TEv G E fun _ S => .ok (.fn f) S) := by
  obtain ⟨a, fd, ps, e1, _⟩ := c.tab.fn f (c.tab.okF f h3)
  exact n_cst (pe_glob (gl_of c.hsc h2) (v := .ref a) (u := .ref a) (by rw [c.hmg, h1]; exact e1) rfl (nm_parts h4).1) fun φ η H => ⟨a, e1, rfl, c.tab.okF f h3⟩
theorem n_mw (c : Cz G W d N sc E X) {x : PySem.Str} {p : Pos} (h1 : x = "MOST_WIDE") (h2 : glB sc x = true) (h4 : nmOk x = true) : PE X (.Name x p) (TEv G E fun _ S => .ok (.int 1000000) S) := by
  obtain ⟨t, e1⟩ := c.tab.mw
  exact n_cst (pe_glob (gl_of c.hsc h2) (v := .int 1000000) (u := .int 1000000 t) (by rw [c.hmg, h1]; exact e1) ⟨t, rfl⟩ (nm_parts h4).1) fun φ η H => rfl
theorem run_sp {f : F} (Q : VK) {vs : List V} {ps : List PV} (hs : StRep G φ η H S) (r : Reps G φ η H ps vs) (hp : Post G (relV G) E φ η H Q (run G.T d f ps S)) : spOf G d f (vs ++ []) H Q E := by
  rw [List.append_nil]
  exact ⟨φ, η, S, ps, hs, r, hp, post_run hp⟩
theorem star_any {es : List Expr} {env : PySem.Env} {pos : Pos} : ∀ {rs : PXs}, mEs W N sc rs es = true → (backTo pos (starEach es env)).any (·.1) = false := by
  have key : ∀ (es : List Expr) (rs : PXs), mEs W N sc rs es = true → (starEach es env).any (·.1) = false := by
    intro es
    induction es with
    | nil => intro _ _; rfl
    | cons e t ih =>
      intro rs h
      cases rs with
      | nil => unfold mEs at h; cases h
      | cons a r =>
        unfold mEs at h
        simp only [Bool.and_eq_true] at h
        rw [okE_star h.1.1, List.any_cons, ih r h.2]
        rfl
  intro rs h
  have := key es rs h
  unfold backTo
  first
    | (simpa [List.any_map] using this)
    | exact this
theorem n_call0 (c : Cz G W d N sc E X) {f : F} {x : PySem.Str} {p pos : Pos} (h1 : x = f.py) (h2 : glB sc x = true) (h3 : W.okF f = true) (h4 : nmOk x = true) :
    PE X (.Call (.Name x p) [] [] pos) (TEv G E fun ρ S => (R.ok [] S : R (List PV)).bind fun vs S => run G.T d f vs S) := by
  obtain ⟨a, fd, ps, e1, kp, hb, F⟩ := c.tab.fn f (c.tab.okF f h3)
  have F' : FnOk X.prog X.w X.K X.mg X.base (L2N.CX X.prog X.w) (4 * d) a fd ps (spOf G d f) := by rw [c.hP, c.hw, c.hK, c.hmg, c.hb]; exact F
  have e2 : X.mg x = some (.ref a) := by rw [c.hmg, h1]; exact e1
  have kp' : PySem.W.keepIn X.K (.ref a) = true := by rw [c.hK]; exact kp
  have hb' : Binds X.K fd ps [] := by rw [c.hK]; exact hb
  refine imp_PE (pe_call0 F' c.room0 (gl_of c.hsc h2) e2 kp' hb' .nil c.pass (nm_parts h4).1) fun σ H Q h => ?_
  obtain ⟨φ, η, ρ, S, hs, hρ, hp⟩ := h
  exact run_sp Q hs (vs := []) (ps := []) rfl hp
theorem n_call (c : Cz G W d N sc E X) {f : F} {x : PySem.Str} {p pos : Pos} {e : Expr} {t : List Expr} {b : PX} {rs : PXs} {r : Pw.Env → PSt → R (List PV)} (h1 : x = f.py) (h2 : glB sc x = true) (h3 : W.okF f = true) (h4 : nmOk x = true) (ho : okE e = true) (hm : mEs W N sc rs t = true) (ha : PA X (e :: t) (TAv G E r)) :
    PE X (.Call (.Name x p) (e :: t) [] pos) (TEv G E fun ρ S => (r ρ S).bind fun vs S => run G.T d f vs S) := by
  obtain ⟨a, fd, ps, e1, kp, hb, F⟩ := c.tab.fn f (c.tab.okF f h3)
  have F' : FnOk X.prog X.w X.K X.mg X.base (L2N.CX X.prog X.w) (4 * d) a fd ps (spOf G d f) := by rw [c.hP, c.hw, c.hK, c.hmg, c.hb]; exact F
  have e2 : X.mg x = some (.ref a) := by rw [c.hmg, h1]; exact e1
  have kp' : PySem.W.keepIn X.K (.ref a) = true := by rw [c.hK]; exact kp
  have hb' : Binds X.K fd ps [] := by rw [c.hK]; exact hb
  refine imp_PE (pe_call F' c.room0 (gl_of c.hsc h2) e2 kp' hb' .nil c.pass ha (nm_parts h4).1 (okE_star ho) (star_any hm)) fun σ H Q h => ?_
  obtain ⟨φ, η, ρ, S, hs, hρ, hp⟩ := h
  exact ⟨φ, η, ρ, S, hs, hρ, hp.bind (rel' := relVs G) fun vs S1 φ1 H1 us x1 hs1 rv hp1 => run_sp Q hs1 rv hp1⟩
/-- a call of a def that a name holds -/
theorem n_callv (c : Cz G W d N sc E X) {x : PySem.Str} {p pos : Pos} {e : Expr} {t : List Expr} {rs : PXs} {rf : Pw.Env → PSt → R PV} {r : Pw.Env → PSt → R (List PV)} (ho : okE e = true) (hm : mEs W N sc rs t = true) (hf : PE X (.Name x p) (TEv G E rf)) (ha : PA X (e :: t) (TAv G E r)):
    PE X (.Call (.Name x p) (e :: t) [] pos) (TEv G E fun ρ S => (rf ρ S).bind fun x S => (match x with
    | .fn f => (r ρ S).bind fun vs S => run G.T d f vs S
    | _ => .err)) := by
  refine ⟨fun pins s σ H Q I h => ?_⟩
  obtain ⟨φ, η, ρ, S, hs, hρ, hp⟩ := h
  have hF := hf.run pins s σ H (fun x H1 => ∃ φ1 S1 f, StRep G φ1 η H1 S1 ∧ ERep G φ1 η H1 ρ σ ∧ Rep G φ1 η H1 (.fn f) x ∧ Post G (relV G) E φ1 η H1 Q ((r ρ S1).bind fun vs S => run G.T d f vs S)) I ⟨φ, η, ρ, S, hs, hρ, hp.bind (rel' := relV G) fun v S1 φ1 H1 x x1 hs1 rx hp1 => by
    cases v with
    | fn f => exact ⟨φ1, S1, f, hs1, hρ.mono x1, rx, hp1⟩
    | _ => exact (hp1 : False).elim⟩
  refine wpAny_Call_Name_kw (thn hF fun u s1 ⟨y, H1, I1, r1, φ1, S1, f, hs1, hρ1, rv, hp1⟩ => ?_)
  obtain ⟨a, e1, ey, ok⟩ := rv
  subst ey
  obtain rfl : u = Value.ref a := r1
  obtain ⟨a', fd, ps, e1', kp, hb, F⟩ := c.tab.fn f ok
  rw [e1] at e1'
  cases e1'
  have F' : FnOk X.prog X.w X.K X.mg X.base (L2N.CX X.prog X.w) (4 * d) a fd ps (spOf G d f) := by rw [c.hP, c.hw, c.hK, c.hmg, c.hb]; exact F
  have kp' : PySem.W.keepIn X.K (.ref a) = true := by rw [c.hK]; exact kp
  have hb' : Binds X.K fd ps [] := by rw [c.hK]; exact hb
  refine PySem.W.callWith_K (h₀ := X.base) I1.ok.mod.kin kp' (thn (ha.run pos pins s1 σ H1 (fun us H2 => ∃ φ2 S2 vs, StRep G φ2 η H2 S2 ∧ Reps G φ2 η H2 vs us ∧ Post G (relV G) E φ2 η H2 Q (run G.T d f vs S2)) I1 ⟨φ1, η, ρ, S1, hs1, hρ1, hp1.bind (rel' := relVs G) fun vs S2 φ2 H2 us x2 hs2 rvs hp2 => ⟨φ2, S2, vs, hs2, rvs, hp2⟩⟩)
    fun us s2 ⟨xs, H2, I2, rr, φ2, S2, vs, hs2, rvs, hp2⟩ => ⟨I2.kIn, ?_⟩) (okE_star ho) (star_any hm)
  exact run_fn F' c.room0 hb' .nil c.pass I2 rr (run_sp Q hs2 rvs hp2)
theorem len1E {es : List Expr} (h : es.length = 1) : ∃ e, es = [e] := by
  cases es with
  | nil => cases h
  | cons e t => cases t with
    | nil => exact ⟨e, rfl⟩
    | cons _ _ => simp at h
theorem len2E {es : List Expr} (h : es.length = 2) : ∃ e f, es = [e, f] := by
  cases es with
  | nil => cases h
  | cons e t =>
    obtain ⟨f, rfl⟩ := len1E (es := t) (by simpa using h)
    exact ⟨e, f, rfl⟩
theorem star1 (env : PySem.Env) (pos : Pos) : (backTo pos (starEach [] env)).any (·.1) = false := rfl
theorem star2 {e : Expr} (h : okE e = true) (env : PySem.Env) (pos : Pos) : (backTo pos (starEach [e] env)).any (·.1) = false := by
  rw [okE_star h]; rfl
def rBlt (G : Gr) (b : Blt) : List V → Hp → VK → Prop := fun xs H Q => ∃ φ η S vs c, StRep G φ η H S ∧ Reps G φ η H vs xs ∧ bltV S b vs = some c ∧ ∀ H' w, Ext φ φ H H' → StRep G φ η H' S → Rep G φ η H' c w → Q w H'
theorem cr_blt (hKx : X.K = G.K) (hc : X.calm = true) (b : Blt) : CallR X b.fv (rBlt G b) := by
  intro pins s σ H xs us Q I r h
  obtain ⟨φ, η, S, vs, c, h⟩ := h
  exact bltS hKx hc b φ η S vs c pins s σ H xs us Q I r h
theorem n_blt (c : Cz G W d N sc E X) {b : Blt} {x : PySem.Str} {p pos : Pos} {es : List Expr} {rs : PXs} {r : Pw.Env → PSt → R (List PV)} (h1 : bltB W sc x b.py = true) (h2 : es.length = b.ar) (hm : mEs W N sc rs es = true) (ha : PA X es (TAv G E r)) :
    PE X (.Call (.Name x p) es [] pos) (TEv G E fun ρ S => (r ρ S).bind fun vs S => R.ofO S (bltV S b vs)) := by
  obtain ⟨e1, hg, hmg, hdb, hnn⟩ := blt_parts c h1
  have fin : ∀ σ H Q, TEv G E (fun ρ S => (r ρ S).bind fun vs S => R.ofO S (bltV S b vs)) σ H Q → tCB (rBlt G b) (TAv G E r) σ H Q := fun σ H Q h => by
    obtain ⟨φ, η, ρ, S, hs, hρ, hp⟩ := h
    refine ⟨φ, η, ρ, S, hs, hρ, hp.bind (rel' := relVs G) fun vs S1 φ1 H1 us x1 hs1 rv hp1 => ?_⟩
    obtain ⟨c, e, hp2⟩ := post_ofO hp1
    exact ⟨φ1, η, S1, vs, c, hs1, rv, e, post_op hp2⟩
  have go : ∃ e t, es = e :: t ∧ okE e = true ∧ (∀ env pos, (backTo pos (starEach t env)).any (·.1) = false) := by
    cases b <;> first
      | (obtain ⟨e, rfl⟩ := len1E h2
         cases rs with
         | nil => unfold mEs at hm; cases hm
         | cons a q =>
           unfold mEs at hm
           simp only [Bool.and_eq_true] at hm
           exact ⟨e, [], rfl, hm.1.1, fun env pos => star1 env pos⟩)
      | (obtain ⟨e, f, rfl⟩ := len2E h2
         cases rs with
         | nil => unfold mEs at hm; cases hm
         | cons a q =>
           unfold mEs at hm
           simp only [Bool.and_eq_true] at hm
           exact ⟨e, [f], rfl, hm.1.1, fun env pos => star_any hm.2⟩)
  obtain ⟨e, t, rfl, ho, hst⟩ := go
  refine imp_PE ?_ fin
  have R := cr_blt (G := G) c.hK c.calm b
  cases b with
  | len => exact pe_callB R hg hmg (by rw [e1]; decide +kernel) ha hnn hdb (okE_star ho) (hst _ _)
  | abs => exact pe_callB R hg hmg (by rw [e1]; decide +kernel) ha hnn hdb (okE_star ho) (hst _ _)
  | int => exact pe_callTy R hg hmg (by rw [e1]; decide +kernel) ha hnn hdb (okE_star ho) (hst _ _)
  | str => exact pe_callTy R hg hmg (by rw [e1]; decide +kernel) ha hnn hdb (okE_star ho) (hst _ _)
  | tuple => exact pe_callTy R hg hmg (by rw [e1]; decide +kernel) ha hnn hdb (okE_star ho) (hst _ _)
  | min2 => exact pe_callB R hg hmg (by rw [e1]; decide +kernel) ha hnn hdb (okE_star ho) (hst _ _)
  | max2 => exact pe_callB R hg hmg (by rw [e1]; decide +kernel) ha hnn hdb (okE_star ho) (hst _ _)
  | sum => exact pe_callB R hg hmg (by rw [e1]; decide +kernel) ha hnn hdb (okE_star ho) (hst _ _)
  | sorted => exact pe_callB R hg hmg (by rw [e1]; decide +kernel) ha hnn hdb (okE_star ho) (hst _ _)
  | bool => exact pe_callTy R hg hmg (by rw [e1]; decide +kernel) ha hnn hdb (okE_star ho) (hst _ _)
theorem Ty.py_nm (t : Ty) : t.py = Str.ofString t.nm := by cases t <;> rfl
theorem n_isi (c : Cz G W d N sc E X) {t : Ty} {x z : PySem.Str} {p p2 pos : Pos} {e : Expr} {r : Pw.Env → PSt → R PV} (h1 : bltB W sc x "isinstance" = true) (h2 : bltB W sc z t.py = true) (ho : okE e = true) (ha : PE X e (TEv G E r)) :
    PE X (.Call (.Name x p) [e, .Name z p2] [] pos) (TEv G E fun ρ S => (r ρ S).bind fun x S => R.ofO S ((tyV S x t).map .bl)) := by
  obtain ⟨e1, hg, hmg, hdb, hnn⟩ := blt_parts c h1
  obtain ⟨e2, hg2, hmg2, hdb2, hnn2⟩ := blt_parts c h2
  have hT : PE X (.Name z p2) (tC (.ty t.nm)) := pe_bltn hg2 hmg2 (u := .type t.nm) (by rw [e2]; cases t <;> decide +kernel) rfl hnn2 hdb2
  refine imp_PE (pe_callB call_isi hg hmg (by rw [e1]; decide +kernel) (pa_cons ha (pa_cons hT pa_nil) (okE_star ho)) hnn hdb (okE_star ho) (star2 rfl _ _)) fun σ H Q h => ?_
  obtain ⟨φ, η, ρ, S, hs, hρ, hp⟩ := h
  refine ⟨φ, η, ρ, S, hs, hρ, hp.bind (rel' := relV G) fun v S1 φ1 H1 x x1 hs1 rx hp1 => ?_⟩
  simp only [ofO_map] at hp1
  obtain ⟨k, e, hp2⟩ := post_ofO_bind hp1
  obtain ⟨T, q1, q2⟩ := tyS rx e X.K
  exact ⟨x, .ty t.nm, .type T, .type t.nm, k, rfl, .ty _, q1, q2, post_here hp2 hs1 rfl⟩
theorem base_of {x : Expr} {n : PySem.Str} {env : PySem.Env} (h : okE x = true) (h2 : notCall x = true) : attributeBase x n env (eval x env) = eval x env := by
  cases x <;> first | rfl | exact (Bool.false_ne_true h).elim | exact (Bool.false_ne_true h2).elim
theorem isStr_rep {v : PV} {x : V} (r : Rep G φ η H v x) (h : isStr v = true) : ∃ a, x = .str a := by
  cases v with
  | str z => exact ⟨z, r.1⟩
  | _ => cases h
theorem Reps.cons1 {es : List PV} {y : V} (r : Reps G φ η H es [y]) : ∃ v, es = [v] ∧ Rep G φ η H v y := by
  cases es with
  | nil => cases r
  | cons a t =>
    obtain ⟨u, us, e, r1, r2⟩ := r
    cases e
    cases t with
    | nil => exact ⟨a, rfl, r1⟩
    | cons b t => obtain ⟨_, _, z, _⟩ := r2; cases z
def rMth (G : Gr) (m : Mth) : V → List V → Hp → VK → Prop := fun x xs H Q => ∃ φ η S a vs c, StRep G φ η H S ∧ Rep G φ η H a x ∧ Reps G φ η H vs xs ∧ mthV S m a vs = some c ∧ ∀ H' w, Ext φ φ H H' → StRep G φ η H' S → Rep G φ η H' c w → Q w H'
theorem n_mth {m : Mth} {o e : Expr} {n : PySem.Str} {ap p : Pos} {ro re : Pw.Env → PSt → R PV} (h1 : n = m.py) (h2 : (ap.endLine == p.line) = true) (h3 : okE o = true) (h4 : notCall o = true) (h5 : okE e = true) (hm : m = .split ∨ m = .join) (ha : PE X o (TEv G E ro)) (hb : PE X e (TEv G E re)) :
    PE X (.Call (.Attribute o n ap) [e] [] p) (TEv G E fun ρ S => (ro ρ S).bind fun x S => if isStr x = true then ((re ρ S).bind fun v S => (R.ok [v] S : R (List PV))).bind fun vs S => R.ofO S (mthV S m x vs) else .err) := by
  have fin : ∀ σ H Q, TEv G E (fun ρ S => (ro ρ S).bind fun x S => if isStr x = true then ((re ρ S).bind fun v S => (R.ok [v] S : R (List PV))).bind fun vs S => R.ofO S (mthV S m x vs) else .err) σ H Q → tM1 (rMth G m) (TEv G E ro) (TEv G E re) σ H Q := fun σ H Q h => by
    obtain ⟨φ, η, ρ, S, hs, hρ, hp⟩ := h
    refine ⟨φ, η, ρ, S, hs, hρ, hp.bind (rel' := relV G) fun v S1 φ1 H1 x x1 hs1 rx hp1 => ?_⟩
    by_cases q : isStr v = true
    · rw [if_pos q] at hp1
      refine ⟨isStr_rep rx q, φ1, η, ρ, S1, hs1, hρ.mono x1, ?_⟩
      rw [R.bind_assoc] at hp1
      refine hp1.bind (rel' := relV G) fun w S2 φ2 H2 y x2 hs2 ry hp2 => ?_
      obtain ⟨c, e, hp3⟩ := post_ofO (o := mthV S2 m v [w]) hp2
      exact ⟨φ2, η, S2, v, [w], c, hs2, rx.mono x2, .one ry, e, post_op hp3⟩
    · rw [if_neg q] at hp1
      exact (hp1 : False).elim
  refine imp_PE ?_ fin
  have hst : starEach [e] X.env = [(false, eval e X.env)] := okE_star h5
  rcases hm with rfl | rfl
  · rw [h1]
    exact pe_m1 F.slot_str_split F.type_str_split (r := rMth G .split) (fun pins s σ H x xs v us Q I rx rs h => by
      obtain ⟨φ, η, S, a, vs, c, q⟩ := h
      exact mthS_split φ η S a vs c pins s σ H x xs v us Q I rx rs q) ha hb hst (base_of h3 h4) h2
  · rw [h1]
    exact pe_m1 F.slot_str_join F.type_str_join (r := rMth G .join) (fun pins s σ H x xs v us Q I rx rs h => by
      obtain ⟨φ, η, S, a, vs, c, q⟩ := h
      exact mthS_join φ η S a vs c pins s σ H x xs v us Q I rx rs q) ha hb hst (base_of h3 h4) h2
end
end Pw
/-! Pw11: makers of lists, turned round. -/
namespace Pw
open PySem PySem.Spec PyProof.Rows L2
section
variable {prog : Program} {w : World} {A : Around} {E : Value → Shared → Prop} {s : Shared}
theorem applied_rev {sl : Addr} {vl vu vs : Value} {n : Nat} {Q : Int × Int × Nat → Shared → Prop} (hs : s.heap.IsSliceOf sl vl vu vs) (pl : IsPart vl none) (pu : IsPart vu none) (ps : IsPart vs (some (-1)))
    (h : Q ((n : Int) - 1, -1, n) s) : wpAny (model prog w) A (Builtin.Slice.sliceApplied (.ref sl) (pure (n : Int))) Q E s := by
  obtain ⟨os, hos, hcs, hds⟩ := id hs
  cases pl
  cases pu
  unfold Builtin.Slice.sliceApplied Builtin.Slice.sliceFields
  refine wpAny_bind (wpAny_bind (wpAny_field hos hds (x := .none) rfl (wpAny_bind (wpAny_field hos hds (x := .none) rfl (wpAny_bind (wpAny_field hos hds (x := vs) rfl (wpAny_pure ?_)))))))
  refine wpAny_bind (HT.slicePart_ ps ?_)
  show wpAny _ _ (if ((-1 : Int) == 0) = true then _ else _) _ _ s
  rw [if_neg (by decide)]
  refine wpAny_bind (HT.slicePart_ .none (wpAny_bind (HT.slicePart_ .none (wpAny_bind (wpAny_pure ?_)))))
  show wpAny _ _ (match Builtin.Slice.sliceAdjust none none (-1) (n : Int) with | (lo, hi) => pure (lo, (-1 : Int), Builtin.Slice.slicePlaces lo hi (-1))) _ _ s
  have e1 : Builtin.Slice.sliceAdjust none none (-1) (n : Int) = ((n : Int) - 1, -1) := rfl
  rw [e1]
  have e2 : Builtin.Slice.slicePlaces ((n : Int) - 1) (-1) (-1) = n := by
    unfold Builtin.Slice.slicePlaces
    simp
    omega
  show wpAny _ _ (pure ((n : Int) - 1, (-1 : Int), Builtin.Slice.slicePlaces ((n : Int) - 1) (-1) (-1))) _ _ s
  rw [e2]
  exact wpAny_pure h
theorem pick_rev (items : Array Value) : ((List.range items.size).filterMap fun (m : Nat) => items[((items.size : Int) - 1 + (m : Int) * -1).toNat]?).toArray = items.toList.reverse.toArray := by
  have e := PySem.W.krv_pick items
  rw [← e]
  show _ = ((sliceRange ((items.size : Int) - 1) (-1) (-1)).filterMap fun i => items[i]?).toArray
  have e2 : sliceRange ((items.size : Int) - 1) (-1) (-1) = (List.range items.size).map fun (m : Nat) => ((items.size : Int) - 1 + (m : Int) * -1).toNat := by
    unfold sliceRange
    rw [if_neg (by decide : ¬ ((-1 : Int) > 0))]
    by_cases h : ((items.size : Int) - 1 > -1)
    · simp only [h, if_true]
      have : (((items.size : Int) - 1 - -1 - -1 - 1) / (- -1)).toNat = items.size := by
        have : ((items.size : Int) - 1 - -1 - -1 - 1) / (- -1) = items.size := by
          rw [show (- -1 : Int) = 1 by decide, Int.ediv_one]
          omega
        rw [this]
        rfl
      rw [this]
      refine List.map_congr_left fun m _ => ?_
      rw [Int.mul_comm]
    · simp only [h, if_false]
      have : items.size = 0 := by omega
      rw [this]
      rfl
  rw [e2, List.filterMap_map]
  rfl
theorem getItem_tuple_rev {t sl : Addr} {items : Array Value} {vl vu vs : Value} {Q : Value → Shared → Prop} (ht : IsTup s.heap t items) (hs : s.heap.IsSliceOf sl vl vu vs) (pl : IsPart vl none) (pu : IsPart vu none) (ps : IsPart vs (some (-1)))
    (h : Q (.ref s.heap.objs.size) { s with heap := s.heap.push { cls := .type "tuple", data := .seq items.toList.reverse.toArray } })
    (hsz : items.size ≤ sizeLine) : wpAny (model prog w) A (getItem (.ref t) (.ref sl)) Q E s := by
  have htake : sizeOk (.seq items.toList.reverse.toArray) := by
    show items.toList.reverse.toArray.size ≤ sizeLine
    rw [List.size_toArray, List.length_reverse, Array.length_toList]
    exact hsz
  obtain ⟨os, hos, hcs, hds⟩ := id hs
  have hTs : s.TypeIs (.ref sl) "slice" := ⟨os, hos, hcs⟩
  unfold getItem
  try with_reducible refine wpAny_holding ?_
  first | refine wpAny_bind (wpAny_pure ?_) | skip
  refine wpAny_bind (wpAny_sequenceKey ht.typeIs (by decide) ?_)
  refine wpAny_bind (wpAny_callSpecial?_slot (name := Str.ofString "__getitem__") ht.typeIs PyProof.Rows.slot_tuple_getitem
    (wpAny_call_entry PyProof.Rows.slot_tuple_getitem ht.typeIs entry_tuple_getitem ?_ (args_tuple_getitem _ _)))
  show wpAny _ _ (Builtin.Tuple.tupleItemsOf (.ref t) >>= _) _ _ s
  refine wpAny_bind (tupleItemsOf_ ht ?_)
  refine wpAny_bind (wpAny_typeOf hTs ?_)
  rw [if_pos (by decide)]
  refine wpAny_bind (applied_rev hs pl pu ps ?_)
  have hno : ¬ ((((items.size : Int) - 1) == 0 && (-1 : Int) == 1 && items.size == items.size) = true) := by simp
  show wpAny _ _ (if (((items.size : Int) - 1) == 0 && (-1 : Int) == 1 && items.size == items.size) = true then _ else _) _ _ s
  rw [if_neg hno, pick_rev]
  first
    | exact wpAny_bind (m := Builtin.Tuple.tupleExact _) (wpAny_newObj_type (wpAny_pure ⟨_, rfl, wpAny_pure h⟩) htake)
    | exact wpAny_bind (m := Builtin.Tuple.tupleExact _) (wpAny_newObj_type (wpAny_bind (wpAny_pure (wpAny_pure ⟨_, rfl, wpAny_pure h⟩))) htake)
    | exact wpAny_bind (wpAny_bind (m := Builtin.Tuple.tupleExact _) (wpAny_newObj_type (wpAny_pure (wpAny_pure ⟨_, rfl, wpAny_pure h⟩)) htake))
    | exact wpAny_bind (wpAny_bind (m := Builtin.Tuple.tupleExact _) (wpAny_newObj_type (wpAny_pure ⟨_, rfl, wpAny_pure h⟩) htake))
end
section
variable {G : Gr} {W : Row} {d : Nat} {N : List PySem.Str} {sc : Scope} {E : XK} {X : Cx} {φ η : List Addr} {H : Hp} {S : PSt}
def tRevA (K : PySem.W.Frag) (te : TE) : TE := fun σ H Q => te σ H fun x H1 => ∃ a xs, x = .ref a ∧ ((SqL K H1 a xs ∧ ∀ p, H1 p = none → Q (.ref p) (upd H1 p (.lst xs.reverse))) ∨ (SqT K H1 a xs ∧ ∀ p, H1 p = none → Q (.ref p) (upd H1 p (.tup xs.reverse))))
theorem pe_revA {e : Expr} {te : TE} {k : Nat} {p1 p2 p3 pos : Pos} (he : PE X e te) : PE X (.Subscript e (.Slice none none (some (.UnaryOp .USub (.Constant (.int 1) k p1) p2)) p3) pos) (tRevA X.K te) := by
  refine ⟨fun pins s σ H Q I h => ?_⟩
  refine Subscript_ (thn (he.run pins s σ H _ I h) fun v s1 ⟨x, H1, I1, r1, q1⟩ => ?_)
  obtain ⟨a, xs, ex, q1⟩ := q1
  subst ex
  cases r1
  have hst : L2.PO X (some (.UnaryOp .USub (.Constant (.int 1) k p1) p2)) (tPart (tUn (rU fun i => .int (-i)) (tC (.int 1)))) := po_some (pe_un un_neg pe_int)
  refine wpAny_Slice (thn (po_none.run pins s1 σ H1 (fun o H2 => o = none ∧ H2 = H1) I1 ⟨rfl, rfl⟩) fun vl s2 ⟨l, H2, I2, pl, el, e2⟩ => ?_)
  subst el e2
  refine thn (po_none.run pins s2 σ H2 (fun o H3 => o = none ∧ H3 = H2) I2 ⟨rfl, rfl⟩) fun vu s3 ⟨u, H3, I3, pu, eu, e3⟩ => ?_
  subst eu e3
  refine thn (hst.run pins s3 σ H3 (fun o H4 => o = some (-1) ∧ H4 = H3) I3 ⟨1, rfl, -1, rfl, rfl, rfl⟩) fun vs s4 ⟨o, H4, I4, ps, eo, e4⟩ => ?_
  subst eo e4
  have I5 : Inv X pins σ H4 { s4 with heap := s4.heap.push { cls := .type "slice", data := .fields #[vl, vu, vs] } } := I4.kept (t' := s4.toks) fun b ob q => Heap.get?_push_of_some _ q
  show wpAny (model X.prog X.w) X.A (subscriptTail e (.Slice none none (some (.UnaryOp .USub (.Constant (.int 1) k p1) p2)) p3) (.ref a) (.ref s4.heap.objs.size)) (EP X pins σ Q) X.xe { s4 with heap := s4.heap.push { cls := .type "slice", data := .fields #[vl, vu, vs] } }
  rcases q1 with ⟨hx, q⟩ | ⟨hx, q⟩
  · obtain ⟨its, r, ht, hz⟩ := I5.list hx
    have hlen := r.length
    refine tail_any (ops := [.ref a, .ref s4.heap.objs.size]) ht.isList.typeIs (PySem.slot_list_getitem.lookup) ?_ (by with_unfolding_all rfl)
    refine wpAny_getItem_list_slice ht.isList (Heap.IsSliceOf.new _ vl vu vs) pl pu ps (by decide) ?_ (by rw [List.size_toArray]; omega)
    rw [PySem.W.krv_pick]
    refine ⟨.ref _, _, I5.laid (t' := s4.toks) (o := .lst xs.reverse) (fun b ob q => Heap.get?_push_of_some _ q) (Nat.le_refl _) ?_, rfl, q _ (I5.hok.fresh (Nat.le_refl _))⟩
    exact ⟨by rw [List.length_reverse]; exact hz, _, 0, r.reverse, Heap.get?_push_size _ rfl⟩
  · obtain ⟨its, r, ht, hz⟩ := I5.tuple hx
    have hlen := r.length
    refine tail_any (ops := [.ref a, .ref s4.heap.objs.size]) ht.typeIs (PyProof.Rows.slot_tuple_getitem.lookup) ?_ (by with_unfolding_all rfl)
    refine getItem_tuple_rev ht (Heap.IsSliceOf.new _ vl vu vs) pl pu ps ?_ (by rw [List.size_toArray]; omega)
    refine ⟨.ref _, _, I5.laid (t' := s4.toks) (o := .tup xs.reverse) (fun b ob q => Heap.get?_push_of_some _ q) (Nat.le_refl _) ?_, rfl, q _ (I5.hok.fresh (Nat.le_refl _))⟩
    exact ⟨by rw [List.length_reverse]; exact hz, _, r.reverse, IsTup.new _ _⟩
theorem n_rev {e : Expr} {k : Nat} {p1 p2 p3 pos : Pos} {ra : Pw.Env → PSt → R PV} (he : PE X e (TEv G E ra)) :
    PE X (.Subscript e (.Slice none none (some (.UnaryOp .USub (.Constant (.int 1) k p1) p2)) p3) pos) (TEv G E fun ρ S => (ra ρ S).bind fun x S => (match x with
    | .tup xs => .ok (.tup xs.reverse) S
    | x => (match asList S x with
      | some xs => .ok (.lst xs.reverse) S
      | none => .err))) :=
  imp_PE (pe_revA he) fun σ H Q h => by
    obtain ⟨φ, η, ρ, S, hs, hρ, hp⟩ := h
    refine ⟨φ, η, ρ, S, hs, hρ, hp.bind (rel' := relV G) fun v S1 φ1 H1 x x1 hs1 rx hp1 => ?_⟩
    have lst : ∀ xs, asList S1 v = some xs → Post G (relV G) E φ1 η H1 Q (.ok (.lst xs.reverse) S1) → ∃ a us, x = .ref a ∧ ((SqL X.K H1 a us ∧ ∀ p, H1 p = none → Q (.ref p) (upd H1 p (.lst us.reverse))) ∨ (SqT X.K H1 a us ∧ ∀ p, H1 p = none → Q (.ref p) (upd H1 p (.tup us.reverse)))) := fun xs e hp2 => by
      obtain ⟨l, us, e1, e2, rr⟩ := asList_rep hs1 rx e
      exact ⟨l, us, e1, .inl ⟨.inl (.inl e2), fun p hn => hp2 φ1 _ _ (.new hn) (hs1.new hn) (rep_newL hs1 hn rr.reverse)⟩⟩
    cases v with
    | tup xs =>
      obtain ⟨a, us, e1, e2, _, _, rr⟩ := rx
      exact ⟨a, us, e1, .inr ⟨.inl (.inl e2), fun p hn => hp1 φ1 _ _ (.new hn) (hs1.new hn) (rep_newT hs1 hn rr.reverse)⟩⟩
    | lst xs => exact lst xs rfl hp1
    | ref n =>
      cases q : asList S1 (.ref n) with
      | none => simp only [q] at hp1; exact (hp1 : False).elim
      | some xs => simp only [q] at hp1; exact lst xs q hp1
    | _ => exact (hp1 : False).elim
/-! ### new lists -/
theorem imp_L {e : Expr} {t : TE} {r : Pw.Env → PSt → R (List PV)} (h : PE X e t) (i : ∀ σ H Q φ η ρ S, StRep G φ η H S → ERep G φ η H ρ σ → Post G (relVs G) E φ η H (QL Q) (r ρ S) → t σ H Q) : PE X e (TLv G E r) :=
  imp_PE h fun σ H Q ⟨φ, η, ρ, S, hs, hρ, hp⟩ => i σ H Q φ η ρ S hs hρ hp
theorem ql_here {xs : List PV} {us : List V} {Q : VK} (hp : Post G (relVs G) E φ η H (QL Q) (.ok xs S)) (hs : StRep G φ η H S) (r : Reps G φ η H xs us) {p : Addr} (hn : H p = none) : Q (.ref p) (upd H p (.lst us)) := hp φ H us (.refl _ _) hs r p hn
theorem reps_rng (lo : Int) : ∀ (n k : Nat), Reps G φ η H ((List.range' k n).map fun i => PV.int (lo + (i : Nat))) ((List.range' k n).map fun i => V.int (lo + (i : Nat)))
  | 0, _ => rfl
  | n + 1, k => ⟨_, _, rfl, rfl, reps_rng lo n (k + 1)⟩
theorem reps_rngL (lo : Int) (n : Nat) : Reps G φ η H (rngL lo n) ((List.range n).map fun i => V.int (lo + (i : Nat))) := by
  unfold rngL
  rw [List.range_eq_range']
  exact reps_rng lo n 0
theorem small62_of {i : Int} (h : small62 i = true) : -(2 ^ 62) ≤ i ∧ i < 2 ^ 62 := by
  unfold small62 at h
  simpa using h
theorem post_if {α β : Type} {rel : List Addr → List Addr → Hp → α → β → Prop} {Q : β → Hp → Prop} {c : Prop} [Decidable c] {r : R α} (h : Post G rel E φ η H Q (if c then r else .err)) : c ∧ Post G rel E φ η H Q r := by
  by_cases q : c
  · rw [if_pos q] at h; exact ⟨q, h⟩
  · rw [if_neg q] at h; exact (h : False).elim
theorem l_lr1 (c : Cz G W d N sc E X) {x y : PySem.Str} {p p2 p3 p4 : Pos} {e : Expr} {ra : Pw.Env → PSt → R PV} (h1 : bltB W sc x "list" = true) (h2 : bltB W sc y "range" = true) (ho : okE e = true) (ha : PE X e (TEv G E ra)) :
    PE X (.Call (.Name x p) [.Call (.Name y p2) [e] [] p3] [] p4) (TLv G E fun ρ S => (ra ρ S).bind fun v S => (match v with
    | .int j => if small62 j && decide (j.toNat ≤ LIM) then .ok (rngL 0 j.toNat) S else .err
    | _ => .err)) := by
  obtain ⟨e1, hg, hmg, _, _⟩ := blt_parts c h1
  obtain ⟨e2, hg2, hmg2, _, _⟩ := blt_parts c h2
  subst e1 e2
  refine imp_L (pe_listRg c.calm hg hmg (prg_1 hg2 hmg2 ha (okE_star ho))) fun σ H Q φ η ρ S hs hρ hp => ?_
  refine ⟨φ, η, ρ, S, hs, hρ, hp.bind (rel' := relV G) fun v S1 φ1 H1 x x1 hs1 rx hp1 => ?_⟩
  cases v with
  | int j =>
    obtain ⟨q, hp2⟩ := post_if hp1
    simp only [Bool.and_eq_true, decide_eq_true_eq] at q
    obtain ⟨q1, q2⟩ := small62_of q.1
    refine ⟨j, rx, ⟨by decide, by decide, q1, q2, by rw [Int.sub_zero]; exact q.2⟩, fun p hn => ?_⟩
    have z := ql_here hp2 hs1 (reps_rngL 0 j.toNat) hn
    unfold rgV
    rw [Int.sub_zero]
    exact z
  | _ => exact (hp1 : False).elim
theorem l_lr2 (c : Cz G W d N sc E X) {x y : PySem.Str} {p p2 p3 p4 : Pos} {e f : Expr} {ra rb : Pw.Env → PSt → R PV} (h1 : bltB W sc x "list" = true) (h2 : bltB W sc y "range" = true) (ho : okE e = true) (ho2 : okE f = true) (ha : PE X e (TEv G E ra)) (hb : PE X f (TEv G E rb)) :
    PE X (.Call (.Name x p) [.Call (.Name y p2) [e, f] [] p3] [] p4) (TLv G E fun ρ S => (ra ρ S).bind fun v S => (rb ρ S).bind fun w S => (match v, w with
    | .int i, .int j => if small62 i && small62 j && decide ((j - i).toNat ≤ LIM) then .ok (rngL i (j - i).toNat) S else .err
    | _, _ => .err)) := by
  obtain ⟨e1, hg, hmg, _, _⟩ := blt_parts c h1
  obtain ⟨e2, hg2, hmg2, _, _⟩ := blt_parts c h2
  subst e1 e2
  refine imp_L (pe_listRg c.calm hg hmg (prg_2 hg2 hmg2 ha hb (okE_star ho) (okE_star ho2) (star2 ho2 _ _))) fun σ H Q φ η ρ S hs hρ hp => ?_
  refine ⟨φ, η, ρ, S, hs, hρ, hp.bind (rel' := relV G) fun v S1 φ1 H1 x x1 hs1 rx hp1 => ?_⟩
  refine ⟨φ1, η, ρ, S1, hs1, hρ.mono x1, hp1.bind (rel' := relV G) fun w S2 φ2 H2 y x2 hs2 ry hp2 => ?_⟩
  have rx2 := rx.mono x2
  cases v with
  | int i =>
    cases w with
    | int j =>
      obtain ⟨q, hp3⟩ := post_if hp2
      simp only [Bool.and_eq_true, decide_eq_true_eq] at q
      obtain ⟨q1, q2⟩ := small62_of q.1.1
      obtain ⟨q3, q4⟩ := small62_of q.1.2
      exact ⟨i, j, rx, ry, ⟨q1, q2, q3, q4, q.2⟩, fun p hn => ql_here hp3 hs2 (reps_rngL i (j - i).toNat) hn⟩
    | _ => exact (hp2 : False).elim
  | _ => exact (hp2 : False).elim
theorem l_ofl (c : Cz G W d N sc E X) {x : PySem.Str} {p p2 : Pos} {e : Expr} {ra : Pw.Env → PSt → R PV} (h1 : bltB W sc x "list" = true) (ho : okE e = true) (ha : PE X e (TEv G E ra)) :
    PE X (.Call (.Name x p) [e] [] p2) (TLv G E fun ρ S => (ra ρ S).bind fun v S => R.ofO S (asSeq S v)) := by
  obtain ⟨e1, hg, hmg, hdb, hnn⟩ := blt_parts c h1
  refine imp_L (pe_callTy call_list_of hg hmg (by rw [e1]; decide +kernel) (pa_cons ha pa_nil (okE_star ho)) hnn hdb (okE_star ho) (star1 _ _)) fun σ H Q φ η ρ S hs hρ hp => ?_
  refine ⟨φ, η, ρ, S, hs, hρ, hp.bind (rel' := relV G) fun v S1 φ1 H1 x x1 hs1 rx hp1 => ?_⟩
  obtain ⟨xs, e, hp2⟩ := post_ofO hp1
  obtain ⟨l, us, q1, q2, q3⟩ := asSeq_rep hs1 rx e
  refine ⟨l, us, by rw [q1], ?_, fun p hn => ql_here hp2 hs1 q3 hn⟩
  rcases q2 with q2 | q2
  · exact .inl (by rw [c.hK]; exact q2)
  · exact .inr (.inl (.inl q2))
theorem l_cat {a b : Expr} {ra rb : Pw.Env → PSt → R PV} {p : Pos} (ha : PE X a (TEv G E ra)) (hb : PE X b (TEv G E rb)) :
    PE X (.BinOp a .Add b p) (TLv G E fun ρ S => (ra ρ S).bind fun x S => (rb ρ S).bind fun y S => (match asList S x, asList S y with
    | some xs, some ys => if xs.length + ys.length ≤ LIM then .ok (xs ++ ys) S else .err
    | _, _ => .err)) := by
  refine imp_L (pe_op op_cat ha hb) fun σ H Q φ η ρ S hs hρ hp => ?_
  refine ⟨φ, η, ρ, S, hs, hρ, hp.bind (rel' := relV G) fun v S1 φ1 H1 x x1 hs1 rx hp1 => ?_⟩
  refine ⟨φ1, η, ρ, S1, hs1, hρ.mono x1, hp1.bind (rel' := relV G) fun w S2 φ2 H2 y x2 hs2 ry hp2 => ?_⟩
  have rx2 := rx.mono x2
  cases q : asList S2 v with
  | none => simp only [q] at hp2; exact (hp2 : False).elim
  | some xs =>
    cases q' : asList S2 w with
    | none => simp only [q, q'] at hp2; exact (hp2 : False).elim
    | some ys =>
      simp only [q, q'] at hp2
      obtain ⟨hl, hp3⟩ := post_if hp2
      obtain ⟨l, us, h1, h2, h3⟩ := asList_rep hs2 rx2 q
      obtain ⟨l', us', h1', h2', h3'⟩ := asList_rep hs2 ry q'
      exact ⟨l, l', us, us', h1, h1', h2, h2', by rw [← h3.length, ← h3'.length, lim_eq]; exact hl, fun p hn => ql_here hp3 hs2 (h3.append h3') hn⟩
theorem l_rep {a b : Expr} {ra rb : Pw.Env → PSt → R PV} {p : Pos} (ha : PE X a (TEv G E ra)) (hb : PE X b (TEv G E rb)) :
    PE X (.BinOp a .Mult b p) (TLv G E fun ρ S => (ra ρ S).bind fun x S => (rb ρ S).bind fun y S => (match asList S x, y with
    | some xs, .int k => if decide (-1000000 < k) && decide (k < 1000000) && decide (xs.length * k.toNat ≤ LIM) then .ok (List.replicate k.toNat xs).flatten S else .err
    | _, _ => .err)) := by
  refine imp_L (pe_op op_rep ha hb) fun σ H Q φ η ρ S hs hρ hp => ?_
  refine ⟨φ, η, ρ, S, hs, hρ, hp.bind (rel' := relV G) fun v S1 φ1 H1 x x1 hs1 rx hp1 => ?_⟩
  refine ⟨φ1, η, ρ, S1, hs1, hρ.mono x1, hp1.bind (rel' := relV G) fun w S2 φ2 H2 y x2 hs2 ry hp2 => ?_⟩
  have rx2 := rx.mono x2
  cases q : asList S2 v with
  | none => simp only [q] at hp2; exact (hp2 : False).elim
  | some xs =>
    cases w with
    | int k =>
      simp only [q] at hp2
      obtain ⟨hl, hp3⟩ := post_if hp2
      simp only [Bool.and_eq_true, decide_eq_true_eq] at hl
      obtain ⟨l, us, h1, h2, h3⟩ := asList_rep hs2 rx2 q
      exact ⟨l, k, us, h1, ry, h2, by omega, by omega, by rw [← h3.length, lim_eq]; exact hl.2, fun p hn => ql_here hp3 hs2 (Reps.flat (pss := []) (vss := []) h3) hn⟩
    | _ => simp only [q] at hp2; exact (hp2 : False).elim
end
end Pw
/-! Pw12: what a for walks. -/
namespace Pw
open PySem PySem.Spec PyProof.Rows L2
section
variable {G : Gr} {W : Row} {d : Nat} {N : List PySem.Str} {sc : Scope} {E : XK} {X : Cx} {φ η : List Addr} {H : Hp} {S : PSt}
theorem imp_I {tg e : Expr} {t : TI} {r : Pw.Env → PSt → R (List PV × Gd)} (h : PI X tg e t) (i : ∀ σ H R φ η ρ S, StRep G φ η H S → ERep G φ η H ρ σ → Post G (relI G) E φ η H R (r ρ S) → t σ H R) : PI X tg e (TIv G E r) :=
  imp_PI h fun σ H Q ⟨φ, η, ρ, S, hs, hρ, hp⟩ => i σ H Q φ η ρ S hs hρ hp
/-- values of one kind, in a list that may change or in a tuple -/
inductive SrcV (G : Gr) (S : PSt) (φ η : List Addr) (H : Hp) (its : List PV) (g : Gd) (a : Addr) : Bool → Prop
  | fix {us : List V} (h : H a = some (.lst us)) (n : a ∉ φ) (n' : a ∉ η) (r : Reps G φ η H its us) (e : g = []) : SrcV G S φ η H its g a true
  | chg {n : Nat} (h : φ[n]? = some a) (e : g = [(n, its)]) : SrcV G S φ η H its g a true
  | tup {us : List V} (h : H a = some (.tup us)) (n : a ∉ φ) (n' : a ∉ η) (r : Reps G φ η H its us) (e : g = []) : SrcV G S φ η H its g a false
theorem SrcV.at {its : List PV} {g : Gd} {a : Addr} {k : Bool} (s : SrcV G S φ η H its g a k) {φ' η' : List Addr} {H' : Hp} {S' : PSt} (he : HExt H η η') (x : ExtW η φ φ' H H') (hs : StRep G φ' η' H' S') (hg : gdOk g S') :
    ∃ us, Reps G φ' η' H' its us ∧ (if k = true then H' a = some (.lst us) else H' a = some (.tup us)) := by
  cases s with
  | fix h n n' r e => exact ⟨_, r.wmono x he, by rw [if_pos rfl]; exact x.keep a _ h n n' fun ps z => by cases z⟩
  | chg h e =>
    subst e
    obtain ⟨vs, q1, q2⟩ := hs.objs _ _ a (hg _ List.mem_cons_self) (x.get h)
    exact ⟨vs, q2, by rw [if_pos rfl]; exact q1⟩
  | tup h n n' r e => exact ⟨_, r.wmono x he, by rw [if_neg Bool.false_ne_true]; exact x.keep a _ h n n' fun ps z => by cases z⟩
theorem srcL_rep {v : PV} {x : V} {p : List PV × Gd} (hs : StRep G φ η H S) (r : Rep G φ η H v x) (e : srcL S v = some p) : (∃ a k, x = .ref a ∧ SrcV G S φ η H p.1 p.2 a k) ∨ (∃ z, v = .str z ∧ x = .str z ∧ PyData.strOk z = true ∧ p = (z.cps.toList.map fun c => .str ⟨#[c]⟩, [])) := by
  cases v with
  | lst xs =>
    obtain ⟨a, us, e1, e2, n1, n2, rr⟩ := r
    simp only [srcL, Option.some.injEq] at e
    subst e
    exact .inl ⟨a, true, e1, .fix e2 n1 n2 rr rfl⟩
  | tup xs =>
    obtain ⟨a, us, e1, e2, n1, n2, rr⟩ := r
    simp only [srcL, Option.some.injEq] at e
    subst e
    exact .inl ⟨a, false, e1, .tup e2 n1 n2 rr rfl⟩
  | str z =>
    simp only [srcL, Option.some.injEq] at e
    subst e
    exact .inr ⟨z, rfl, r.1, r.2, rfl⟩
  | ref n =>
    obtain ⟨a, e1, e2⟩ := r
    simp only [srcL] at e
    split at e
    · rename_i xs q
      cases e
      exact .inl ⟨a, true, e2, .chg e1 rfl⟩
    · cases e
  | _ => cases e
theorem src_list {its : List PV} {g : Gd} {a : Addr} (K : PySem.W.Frag) (s : SrcV G S φ η H its g a true) : SrcOk G (Itl K a) its g φ η H := fun φ' η' H' S' he x hs hg => by
  obtain ⟨us, r, e⟩ := s.at he x hs hg
  rw [if_pos rfl] at e
  have q : SqL K H' a us := .inl (.inl e)
  refine ⟨fun i hi => ⟨⟨us, us[i]'(by rw [← r.length]; exact hi), q, by simp [← r.length, hi]⟩, fun y H2 h => ?_⟩, ⟨us, q, by rw [← r.length]; exact Nat.le_refl _⟩⟩
  obtain ⟨h1, h2⟩ := h
  subst h1
  refine ⟨.refl _ _, hs, its[i], by simp [hi], ?_⟩
  obtain ⟨v, e1, e2⟩ := r.get (i := i) (p := its[i]) (by simp [hi])
  rw [h2 us q] at e1
  cases e1
  exact e2
theorem src_tup {its : List PV} {g : Gd} {a : Addr} (K : PySem.W.Frag) (s : SrcV G S φ η H its g a false) : SrcOk G (Itt K a) its g φ η H := fun φ' η' H' S' he x hs hg => by
  obtain ⟨us, r, e⟩ := s.at he x hs hg
  rw [if_neg Bool.false_ne_true] at e
  have q : SqT K H' a us := .inl (.inl e)
  refine ⟨fun i hi => ⟨⟨us, us[i]'(by rw [← r.length]; exact hi), q, by simp [← r.length, hi]⟩, fun y H2 h => ?_⟩, ⟨us, q, by rw [← r.length]; exact Nat.le_refl _⟩⟩
  obtain ⟨h1, h2⟩ := h
  subst h1
  refine ⟨.refl _ _, hs, its[i], by simp [hi], ?_⟩
  obtain ⟨v, e1, e2⟩ := r.get (i := i) (p := its[i]) (by simp [hi])
  rw [h2 us q] at e1
  cases e1
  exact e2
theorem src_str {z : PySem.Str} (hz : PyData.strOk z = true) : SrcOk G (Its z) (z.cps.toList.map fun c => .str ⟨#[c]⟩) [] φ η H := fun φ' η' H' S' he x hs hg => by
  have hl : (z.cps.toList.map fun c => PV.str ⟨#[c]⟩).length = z.cps.size := by simp
  refine ⟨fun i hi => ⟨show i < z.cps.size by rw [← hl]; exact hi, fun y H2 h => ?_⟩, by rw [hl]; exact Nat.le_refl _⟩
  obtain ⟨h1, c, h2, h3⟩ := h
  subst h1 h3
  refine ⟨.refl _ _, hs, .str ⟨#[c]⟩, by rw [List.getElem?_map, Array.getElem?_toList, h2]; rfl, rfl, strOk_of (l := [c]) hz fun c' hc => ?_⟩
  rw [List.mem_singleton.mp hc]
  exact List.mem_of_getElem? (by rw [Array.getElem?_toList]; exact h2)
theorem src_rng (lo : Int) (n : Nat) : SrcOk G (Itr lo n) (rngL lo n) [] φ η H := fun φ' η' H' S' he x hs hg => by
  have hl : (rngL lo n).length = n := by simp [rngL]
  refine ⟨fun i hi => ⟨show i < n by rw [← hl]; exact hi, fun y H2 h => ?_⟩, by rw [hl]; exact Nat.le_refl _⟩
  obtain ⟨h1, h2⟩ := h
  subst h1 h2
  exact ⟨.refl _ _, hs, .int (lo + (i : Nat)), by rw [rngL, List.getElem?_map, List.getElem?_range (by rw [← hl]; exact hi)]; rfl, rfl⟩
theorem src_rngC (lo c : Int) (n : Nat) : SrcOk G (Itc lo c n) ((List.range n).map fun t => .int (lo + (t : Nat) * c)) [] φ η H := fun φ' η' H' S' he x hs hg => by
  have hl : ((List.range n).map fun (t : Nat) => PV.int (lo + (t : Nat) * c)).length = n := by simp
  refine ⟨fun i hi => ⟨show i < n by rw [← hl]; exact hi, fun y H2 h => ?_⟩, by rw [hl]; exact Nat.le_refl _⟩
  obtain ⟨h1, h2⟩ := h
  subst h1 h2
  exact ⟨.refl _ _, hs, .int (lo + (i : Nat) * c), by rw [List.getElem?_map, List.getElem?_range (by rw [← hl]; exact hi)]; rfl, rfl⟩
/-- a list, a tuple or a text -/
def iVal (K : PySem.W.Frag) (te : TE) : TI := fun σ H R => te σ H fun x H1 => (∃ a, x = .ref a ∧ (∃ xs, SqL K H1 a xs) ∧ R (Itl K a) H1) ∨ (∃ a, x = .ref a ∧ (∃ xs, SqT K H1 a xs) ∧ R (Itt K a) H1) ∨ (∃ z, x = .str z ∧ R (Its z) H1)
theorem pi_val {tg l : Expr} {tl : TE} (hl : PE X l tl) : PI X tg l (iVal X.K tl) := by
  refine ⟨fun pins s σ H R I h => ?_⟩
  refine thn (hl.run pins s σ H _ I h) fun v s1 ⟨x, H1, I1, r1, q1⟩ => ?_
  rcases q1 with ⟨a, e, ⟨xs, hq⟩, q⟩ | ⟨a, e, ⟨xs, hq⟩, q⟩ | ⟨x, ex, q⟩
  · subst e
    cases r1
    obtain ⟨its, rv, p, hz⟩ := I1.list hq
    refine wpAny_pyIter_list p.isList ?_
    refine ⟨s1.heap.objs.size, [s1.heap.objs.size], _, _, H1, rfl, I1.kept (t' := s1.toks) fun b o e => Heap.get?_push_of_some _ e, turn_list a _, ⟨_, Heap.get?_push_size _ rfl, rfl, rfl⟩, fun b hb => ?_, q⟩
    have e : b = s1.heap.objs.size := by simpa using hb
    subst e
    exact I1.fpOk (Nat.le_refl _) (I1.hok.fresh (Nat.le_refl _))
  · subst e
    cases r1
    obtain ⟨its, rv, p, hz⟩ := I1.tuple hq
    refine wpAny_pyIter_tuple (show s1.heap.IsTuple a its.toArray from p) ?_
    refine ⟨s1.heap.objs.size, [s1.heap.objs.size], _, _, H1, rfl, I1.kept (t' := s1.toks) fun b o e => Heap.get?_push_of_some _ e, turn_tuple a _, ⟨_, Heap.get?_push_size _ rfl, rfl, rfl⟩, fun b hb => ?_, q⟩
    have e : b = s1.heap.objs.size := by simpa using hb
    subst e
    exact I1.fpOk (Nat.le_refl _) (I1.hok.fresh (Nat.le_refl _))
  · subst ex
    obtain ⟨t, rfl⟩ := r1
    cases ha : x.cps.all (· < 128)
    · exact wpAny_pyIter_wide ha (pi_one (tk := s1.toks) I1 _ (turn_str _ x t "str_iterator" (.inr rfl)) ⟨_, Heap.get?_push_size _ rfl, rfl, rfl⟩ q)
    · exact wpAny_pyIter_ascii ha (pi_one (tk := s1.toks) I1 _ (turn_str _ x t "str_ascii_iterator" (.inl rfl)) ⟨_, Heap.get?_push_size _ rfl, rfl, rfl⟩ q)
theorem sqL_of {its : List PV} {g : Gd} {a : Addr} (K : PySem.W.Frag) (hs : StRep G φ η H S) (hg : gdOk g S) (s : SrcV G S φ η H its g a true) : ∃ us, SqL K H a us := by
  obtain ⟨us, _, e⟩ := s.at (.refl _ _) (Ext.refl _ _).w hs hg
  rw [if_pos rfl] at e
  exact ⟨us, .inl (.inl e)⟩
theorem sqT_of {its : List PV} {g : Gd} {a : Addr} (K : PySem.W.Frag) (hs : StRep G φ η H S) (hg : gdOk g S) (s : SrcV G S φ η H its g a false) : ∃ us, SqT K H a us := by
  obtain ⟨us, _, e⟩ := s.at (.refl _ _) (Ext.refl _ _).w hs hg
  rw [if_neg Bool.false_ne_true] at e
  exact ⟨us, .inl (.inl e)⟩
theorem srcL_gd {v : PV} {p : List PV × Gd} (e : srcL S v = some p) : gdOk p.2 S := by
  cases v with
  | lst xs => cases e; exact fun p hp => by cases hp
  | tup xs => cases e; exact fun p hp => by cases hp
  | str xs => cases e; exact fun p hp => by cases hp
  | ref n =>
    simp only [srcL] at e
    split at e
    · rename_i xs q
      cases e
      intro p hp
      rw [List.mem_singleton.mp hp]
      exact q
    · cases e
  | _ => cases e
theorem r_val {tg e : Expr} {ra : Pw.Env → PSt → R PV} (ha : PE X e (TEv G E ra)) : PI X tg e (TIv G E fun ρ S => (ra ρ S).bind fun v S => R.ofO S (srcL S v)) :=
  imp_I (pi_val ha) fun σ H Q φ η ρ S hs hρ hp => by
    refine ⟨φ, η, ρ, S, hs, hρ, hp.bind (rel' := relV G) fun v S1 φ1 H1 x x1 hs1 rx hp1 => ?_⟩
    obtain ⟨p, e, hp2⟩ := post_ofO hp1
    have hg := srcL_gd e
    rcases srcL_rep hs1 rx e with ⟨a, k, e1, s⟩ | ⟨z, e1, e2, e3, e4⟩
    · cases k with
      | true => exact .inl ⟨a, e1, sqL_of X.K hs1 hg s, hp2 φ1 H1 _ (.refl _ _) hs1 (src_list X.K s)⟩
      | false => exact .inr (.inl ⟨a, e1, sqT_of X.K hs1 hg s, hp2 φ1 H1 _ (.refl _ _) hs1 (src_tup X.K s)⟩)
    · subst e4
      exact .inr (.inr ⟨z, e2, hp2 φ1 H1 _ (.refl _ _) hs1 (src_str e3)⟩)
theorem r_rng (c : Cz G W d N sc E X) {tg e : Expr} {x : PySem.Str} {p p2 : Pos} {ra : Pw.Env → PSt → R PV} (h1 : bltB W sc x "range" = true) (ho : okE e = true) (ha : PE X e (TEv G E ra)) :
    PI X tg (.Call (.Name x p) [e] [] p2) (TIv G E fun ρ S => (ra ρ S).bind fun v S => (match v with
    | .int j => if small62 j then .ok (rngL 0 j.toNat, []) S else .err
    | _ => .err)) := by
  obtain ⟨e1, hg, hmg, _, _⟩ := blt_parts c h1
  subst e1
  refine imp_I (pi_range1 hg hmg (pa_cons ha pa_nil (okE_star ho)) (okE_star ho)) fun σ H Q φ η ρ S hs hρ hp => ?_
  refine ⟨φ, η, ρ, S, hs, hρ, hp.bind (rel' := relV G) fun v S1 φ1 H1 x x1 hs1 rx hp1 => ?_⟩
  cases v with
  | int j =>
    obtain ⟨q, hp2⟩ := post_if hp1
    obtain ⟨q1, q2⟩ := small62_of q
    exact ⟨j, by rw [show x = .int j from rx], q1, q2, hp2 φ1 H1 _ (.refl _ _) hs1 (src_rng 0 j.toNat)⟩
  | _ => exact (hp1 : False).elim
theorem r_rng2 (c : Cz G W d N sc E X) {tg e f : Expr} {x : PySem.Str} {p p2 : Pos} {ra rb : Pw.Env → PSt → R PV} (h1 : bltB W sc x "range" = true) (ho : okE e = true) (ho2 : okE f = true) (ha : PE X e (TEv G E ra)) (hb : PE X f (TEv G E rb)) :
    PI X tg (.Call (.Name x p) [e, f] [] p2) (TIv G E fun ρ S => (ra ρ S).bind fun v S => (rb ρ S).bind fun w S => (match v, w with
    | .int i, .int j => if small62 i && small62 j then .ok (rngL i (j - i).toNat, []) S else .err
    | _, _ => .err)) := by
  obtain ⟨e1, hg, hmg, _, _⟩ := blt_parts c h1
  subst e1
  refine imp_I (pi_range2 hg hmg (pa_cons ha (pa_cons hb pa_nil (okE_star ho2)) (okE_star ho)) (by rw [okE_star ho, okE_star ho2]; rfl) (okE_star ho2)) fun σ H Q φ η ρ S hs hρ hp => ?_
  refine ⟨φ, η, ρ, S, hs, hρ, hp.bind (rel' := relV G) fun v S1 φ1 H1 x x1 hs1 rx hp1 => ?_⟩
  refine ⟨φ1, η, ρ, S1, hs1, hρ.mono x1, hp1.bind (rel' := relV G) fun w S2 φ2 H2 y x2 hs2 ry hp2 => ?_⟩
  have rx2 := rx.mono x2
  cases v with
  | int i =>
    cases w with
    | int j =>
      obtain ⟨q, hp3⟩ := post_if hp2
      simp only [Bool.and_eq_true] at q
      obtain ⟨q1, q2⟩ := small62_of q.1
      obtain ⟨q3, q4⟩ := small62_of q.2
      exact ⟨i, j, by rw [show x = .int i from rx, show y = .int j from ry], ⟨q1, q2, q3, q4⟩, hp3 φ2 H2 _ (.refl _ _) hs2 (src_rng i (j - i).toNat)⟩
    | _ => exact (hp2 : False).elim
  | _ => exact (hp2 : False).elim
theorem r_rng3 (c : Cz G W d N sc E X) {tg e f g : Expr} {x : PySem.Str} {p p2 : Pos} {ra rb rc : Pw.Env → PSt → R PV} (h1 : bltB W sc x "range" = true) (ho : okE e = true) (ho2 : okE f = true) (ho3 : okE g = true) (ha : PE X e (TEv G E ra)) (hb : PE X f (TEv G E rb)) (hc : PE X g (TEv G E rc)) :
    PI X tg (.Call (.Name x p) [e, f, g] [] p2) (TIv G E fun ρ S => (ra ρ S).bind fun v S => (rb ρ S).bind fun w S => (rc ρ S).bind fun z S => (match v, w, z with
    | .int i, .int j, .int k => if rng3Ok i j k then .ok ((List.range (Builtin.Range.rangeSize i j k).toNat).map fun t => .int (i + (t : Nat) * k), []) S else .err
    | _, _, _ => .err)) := by
  obtain ⟨e1, hg, hmg, _, _⟩ := blt_parts c h1
  subst e1
  refine imp_I (pi_range3 hg hmg (pa_cons ha (pa_cons hb (pa_cons hc pa_nil (okE_star ho3)) (okE_star ho2)) (okE_star ho)) (okE_star ho) (by rw [okE_star ho2, okE_star ho3]; rfl)) fun σ H Q φ η ρ S hs hρ hp => ?_
  refine ⟨φ, η, ρ, S, hs, hρ, hp.bind (rel' := relV G) fun v S1 φ1 H1 x x1 hs1 rx hp1 => ?_⟩
  refine ⟨φ1, η, ρ, S1, hs1, hρ.mono x1, hp1.bind (rel' := relV G) fun w S2 φ2 H2 y x2 hs2 ry hp2 => ?_⟩
  refine ⟨φ2, η, ρ, S2, hs2, (hρ.mono x1).mono x2, hp2.bind (rel' := relV G) fun u S3 φ3 H3 z x3 hs3 rz hp3 => ?_⟩
  cases v with
  | int i =>
    cases w with
    | int j =>
      cases u with
      | int k =>
        obtain ⟨q, hp4⟩ := post_if hp3
        unfold rng3Ok at q
        simp only [Bool.and_eq_true, decide_eq_true_eq] at q
        exact ⟨i, j, k, _, by rw [show x = .int i from rx, show y = .int j from ry, show z = .int k from rz], ⟨q.1.1.1, q.1.1.2, q.1.2, (Int.toNat_of_nonneg q.2).symm⟩, hp4 φ3 H3 _ (.refl _ _) hs3 (src_rngC i k _)⟩
      | _ => exact (hp3 : False).elim
    | _ => exact (hp3 : False).elim
  | _ => exact (hp3 : False).elim
end
end Pw
/-! Pw13: zip and enumerate. -/
namespace Pw
open PySem PySem.Spec PyProof.Rows L2
def SqK (k : Bool) (K : PySem.W.Frag) (H : Hp) (a : Addr) (xs : List V) : Prop := match k with
  | true => SqL K H a xs
  | false => SqT K H a xs
def IsK (k : Bool) (h : Heap) (a : Addr) (its : Array Value) : Prop := match k with
  | true => h.IsList a its
  | false => h.IsTuple a its
def IterK (k : Bool) (h : Heap) (i a : Addr) (n : Nat) : Prop := match k with
  | true => h.IsListIter i a n
  | false => h.IsTupleIter i a n
def objK (k : Bool) (a : Addr) : Obj := match k with
  | true => { cls := .type "list_iterator", data := .fields #[.ref a, .int 0 0] }
  | false => { cls := .type "tuple_iterator", data := .fields #[.ref a, .int 0 0] }
theorem drawsK {prog : Program} {w : World} {A : Around} (k : Bool) (hh : A.handled = none) (it a : Addr) (hne : a ≠ it) (items : Array Value) :
    Draws prog w A it [it, a] items.size (fun i v => items[i]? = some v) (fun i h => IterK k h it a i ∧ IsK k h a items) := by
  cases k with
  | true => exact Draws.list hh it a hne items
  | false => exact Draws.tuple hh it a hne items
theorem beginsK (k : Bool) (a : Addr) (items : Array Value) : Begins (.ref a) (objK k a) fun h => IsK k h a items := by
  cases k with
  | true => exact begins_list a items
  | false => exact begins_tuple a items
theorem iterK0 (k : Bool) {h : Heap} {i a : Addr} (e : h.get? i = some (objK k a)) : IterK k h i a 0 := by
  cases k with
  | true => exact ⟨_, e, rfl, rfl⟩
  | false => exact ⟨_, e, rfl, rfl⟩
theorem IterK.at {k : Bool} {h h' : Heap} {i a : Addr} {n : Nat} (x : IterK k h i a n) (e : ∀ o, h.get? i = some o → h'.get? i = some o) : IterK k h' i a n := by
  cases k with
  | true => exact Heap.IsListIter.at x e
  | false => exact Heap.IsTupleIter.at x e
theorem IterK.obj {k : Bool} {h : Heap} {i a : Addr} {n : Nat} (x : IterK k h i a n) : ∃ o, h.get? i = some o ∧ ∀ v, o.data ≠ .cell v := by
  cases k with
  | true => obtain ⟨o, e, _, d⟩ := x; exact ⟨o, e, fun v q => by rw [d] at q; cases q⟩
  | false => obtain ⟨o, e, _, d⟩ := x; exact ⟨o, e, fun v q => by rw [d] at q; cases q⟩
section
variable {X : Cx} {pins : List (Addr × Obj)} {σ : L2.St} {H : Hp} {s : Shared}
theorem sqK_inv {k : Bool} {a : Addr} {xs : List V} (I : L2.Inv X pins σ H s) (h : SqK k X.K H a xs) : ∃ its, Vals xs its ∧ IsK k s.heap a its.toArray ∧ a < s.heap.objs.size := by
  cases k with
  | true => obtain ⟨its, rv, p, hz⟩ := I.list h; exact ⟨its, rv, p.isList, p.lt⟩
  | false => obtain ⟨its, rv, p, hz⟩ := I.tuple h; exact ⟨its, rv, p, let ⟨_, e, _⟩ := p; Heap.lt_size e⟩
theorem sqK_inj {k : Bool} {a : Addr} {xs ys : List V} (I : L2.Inv X pins σ H s) (h : SqK k X.K H a xs) (h' : SqK k X.K H a ys) : xs = ys := by
  cases k with
  | true => exact I.list_inj h h'
  | false => exact I.tuple_inj h h'
end
def ItzM (K : PySem.W.Frag) (ka kb : Bool) (a b : Addr) : It :=
  ⟨fun i H => ∃ (xs ys : List V) (x y : V), SqK ka K H a xs ∧ SqK kb K H b ys ∧ xs[i]? = some x ∧ ys[i]? = some y,
    fun i H v H' => ∃ T x y, v = .ref T ∧ H T = none ∧ H' = upd H T (.tup [x, y]) ∧ (∀ xs, SqK ka K H a xs → xs[i]? = some x) ∧ ∀ ys, SqK kb K H b ys → ys[i]? = some y,
    fun i H => ∃ xs ys : List V, SqK ka K H a xs ∧ SqK kb K H b ys ∧ i = min xs.length ys.length⟩
theorem sep_of {n a b : Nat} (ha : a < n) (hb : b < n) : ZipSep2 (n + 4) (n + 2) (n + 3) n (n + 1) [n, a] [n + 1, b] := by
  constructor
  all_goals first
    | exact List.mem_cons_self
    | (show @Ne Nat _ _; omega)
    | (intro h
       simp only [List.mem_cons, List.not_mem_nil, or_false] at h
       rcases h with h | h <;> (replace h : @Eq Nat _ _ := h; omega))
theorem turn_zipM {P : Program} {w : World} {K : PySem.W.Frag} {elts : List Expr} {kk : Nat} {tpos : Pos} {ka kb : Bool} {a b n : Nat} (ha : a < n) (hb : b < n) :
    Turn P w K (.Tuple elts kk tpos) (ItzM K ka kb a b) [n + 4, n + 2, n + 3, n, n + 1] (n + 4)
      (fun i h => IsZip h (n + 4) (n + 2) (n + 3) .none ∧ IsTupOf2 h (n + 2) (.ref n) (.ref (n + 1)) ∧ (∃ a1 a2, IsTupOf2 h (n + 3) a1 a2) ∧ IterK ka h n a i ∧ IterK kb h (n + 1) b i) where
  mem := by simp
  obj := fun i h st c hc => by
    obtain ⟨hz, hTI, ⟨x, y, hTO⟩, h1, h2⟩ := st
    have e' : c = n + 4 ∨ c = n + 2 ∨ c = n + 3 ∨ c = n ∨ c = n + 1 := by simpa using hc
    rcases e' with q | q | q | q | q
    · rw [q]; exact ⟨_, hz, fun v q => nomatch q⟩
    · rw [q]; exact ⟨_, hTI, fun v q => nomatch q⟩
    · rw [q]; exact ⟨_, hTO, fun v q => nomatch q⟩
    · rw [q]; exact h1.obj
    · rw [q]; exact h2.obj
  keep := fun i h h' st k => by
    obtain ⟨hz, hTI, ⟨x, y, hTO⟩, h1, h2⟩ := st
    exact ⟨k _ (by simp) _ hz, k _ (by simp) _ hTI, ⟨x, y, k _ (by simp) _ hTO⟩, h1.at fun o q => k n (by simp) o q, h2.at fun o q => k (n + 1) (by simp) o q⟩
  item := by
    intro X hP hw hK hc i pins s σ H E I hf st hg
    subst hP hw hK
    obtain ⟨hz, hTI, hTO, h1, h2⟩ := st
    obtain ⟨xs, ys, x, y, hqx, hqy, hx, hy⟩ := hg
    obtain ⟨its, rv, p, _⟩ := sqK_inv I hqx
    obtain ⟨its2, rv2, p2, _⟩ := sqK_inv I hqy
    have hh : X.A.in1.handled = none := I.ok.hd hc
    have hi1 : i < its.length := by rw [← rv.length]; exact (List.getElem?_eq_some_iff.mp hx).1
    have hi2 : i < its2.length := by rw [← rv2.length]; exact (List.getElem?_eq_some_iff.mp hy).1
    refine (GoesN.zip2 (sep_of ha hb) (drawsK (prog := X.prog) (w := X.w) (A := X.A.in1) ka hh n a (Nat.ne_of_lt ha) its.toArray) (drawsK kb hh (n + 1) b (Nat.ne_of_lt (Nat.lt_succ_of_lt hb)) its2.toArray)).goes i s _ E (by simp; omega) ⟨hz, hTI, hTO, ⟨h1, p⟩, ⟨h2, p2⟩⟩ fun v h' tk hY hst hk ht => ?_
    obtain ⟨T, u, u2, ev, hT, hu, hu2, hI⟩ := hY
    obtain ⟨z', TI', TO', ⟨h1', _⟩, ⟨h2', _⟩⟩ := hst
    obtain ⟨q, hq, ru⟩ := rv.get hx
    obtain ⟨q2, hq2, ru2⟩ := rv2.get hy
    have e1 : u = q := by
      have : its.toArray[i]? = some q := by simpa using hq
      rw [this] at hu; cases hu; rfl
    have e2 : u2 = q2 := by
      have : its2.toArray[i]? = some q2 := by simpa using hq2
      rw [this] at hu2; cases hu2; rfl
    subst e1 e2 ev
    have new : ObjOk X.prog X.w (upd H T (.tup [x, y])) h' T (.tup [x, y]) := ⟨by show 2 ≤ sizeLine; decide, [u, u2], .cons ru (.cons ru2 .nil), hI⟩
    have hf' : ∀ c ∈ [n + 4, n + 3, n, n + 1], FpOk X pins H c := fun c hc' => hf c (by
      simp only [List.mem_cons, List.not_mem_nil, or_false] at hc' ⊢
      rcases hc' with z | z | z | z <;> simp [z])
    refine ⟨.ref T, _, I.turnedNew (t' := tk) (ch := [n + 4, n + 3, n, n + 1]) hk hf' hT new, rfl, ⟨T, x, y, rfl, I.hok.fresh hT, rfl, fun l hl => by rw [sqK_inj I hl hqx]; exact hx, fun l hl => by rw [sqK_inj I hl hqy]; exact hy⟩, ⟨z', TI', TO', h1', h2'⟩, fun c hcm => ?_⟩
    have hlt : c < s.heap.objs.size := by
      have e' : c = n + 4 ∨ c = n + 2 ∨ c = n + 3 ∨ c = n ∨ c = n + 1 := by simpa using hcm
      have := Heap.lt_size hz
      have hz2 : (n + 4 : Nat) < s.heap.objs.size := this
      rcases e' with q | q | q | q | q <;> (rw [q]; show (_ : Nat) < _; omega)
    rw [upd_ne (Nat.ne_of_lt (Nat.lt_of_lt_of_le hlt hT))]
    exact (hf c hcm).1
  done := by
    intro X hP hw hK hc i pins s σ H E I hf st hg
    subst hP hw hK
    obtain ⟨hz, hTI, hTO, h1, h2⟩ := st
    obtain ⟨xs, ys, hqx, hqy, hend⟩ := hg
    obtain ⟨its, rv, p, _⟩ := sqK_inv I hqx
    obtain ⟨its2, rv2, p2, _⟩ := sqK_inv I hqy
    have hh : X.A.in1.handled = none := I.ok.hd hc
    have en : min its.toArray.size its2.toArray.size = i := by rw [hend, rv.length, rv2.length]; simp
    have st : IsZip s.heap (n + 4) (n + 2) (n + 3) .none ∧ IsTupOf2 s.heap (n + 2) (.ref n) (.ref (n + 1)) ∧ (∃ a1 a2, IsTupOf2 s.heap (n + 3) a1 a2) ∧ (IterK ka s.heap n a i ∧ IsK ka s.heap a its.toArray) ∧ (IterK kb s.heap (n + 1) b i ∧ IsK kb s.heap b its2.toArray) := ⟨hz, hTI, hTO, ⟨h1, p⟩, ⟨h2, p2⟩⟩
    rw [← en] at st
    refine (GoesN.zip2 (elts := elts) (x1 := kk) (pos := tpos) (sep_of ha hb) (drawsK (prog := X.prog) (w := X.w) (A := X.A.in1) ka hh n a (Nat.ne_of_lt ha) its.toArray) (drawsK kb hh (n + 1) b (Nat.ne_of_lt (Nat.lt_succ_of_lt hb)) its2.toArray)).stops s _ E st fun h' tk hk ht => ?_
    have hf' : ∀ c ∈ [n + 4, n + 3, n, n + 1], FpOk X pins H c := fun c hc' => hf c (by
      simp only [List.mem_cons, List.not_mem_nil, or_false] at hc' ⊢
      rcases hc' with z | z | z | z <;> simp [z])
    exact I.turnedL (t' := tk) (ch := [n + 4, n + 3, n, n + 1]) hk hf'
  self := fun A i s Q E st h => wpAny_pyIter_zip st.1 h
def iZipM (K : PySem.W.Frag) (ta : TA) : TI := fun σ H R => ta σ H fun vs H1 => ∃ a b ka kb xs ys, vs = [.ref a, .ref b] ∧ SqK ka K H1 a xs ∧ SqK kb K H1 b ys ∧ R (ItzM K ka kb a b) H1
theorem pi_zipM {X : Cx} {e e2 : Expr} {ta : TA} {p pos tpos : Pos} {elts : List Expr} {kk : Nat} (hg : Gl X "zip") (hm : X.mg "zip" = none) (ha : PA X [e, e2] ta)
    (hs : starEach [e, e2] X.env = (false, eval e X.env) :: starEach [e2] X.env := by rfl) (hpl : (backTo pos (starEach [e2] X.env)).any (·.1) = false := by rfl) :
    PI X (.Tuple elts kk tpos) (.Call (.Name "zip" p) [e, e2] [] pos) (iZipM X.K ta) := by
  refine ⟨fun pins s σ H R I h => ?_⟩
  refine Call_ (ld_blt I hg hm PyProof.Rows.boot_zip (PyProof.Rows.callWith_type1 (thn (ha.run pos pins s σ H _ I h) fun us s1 ⟨vs, H1, I1, r1, q1⟩ => ?_) hs hpl))
  obtain ⟨a, b, ka, kb, xs, ys, ex, hqx, hqy, q⟩ := q1
  subst ex
  cases r1 with
  | cons r rr =>
    cases rr with
    | cons r' rr =>
      cases rr
      cases r
      cases r'
      obtain ⟨its, rv, p1, l1⟩ := sqK_inv I1 hqx
      obtain ⟨its2, rv2, p2, l2⟩ := sqK_inv I1 hqy
      refine zip_begins2 (beginsK ka a its.toArray) (beginsK kb b its2.toArray) p1 p2 fun h' hz hTI hTO h1 h2 hsz hk => wpAny_pyIter_zip hz ?_
      have I2 : L2.Inv X pins σ H1 { s1 with heap := h' } := I1.kept (t' := s1.toks) hk
      refine ⟨s1.heap.objs.size + 4, _, _, _, H1, rfl, I2, turn_zipM (ka := ka) (kb := kb) l1 l2, ⟨hz, hTI, ⟨_, _, hTO⟩, iterK0 ka h1, iterK0 kb h2⟩, fun c hcm => ?_, q⟩
      have e' : c = s1.heap.objs.size + 4 ∨ c = s1.heap.objs.size + 2 ∨ c = s1.heap.objs.size + 3 ∨ c = s1.heap.objs.size ∨ c = s1.heap.objs.size + 1 := by simpa using hcm
      have hle : s1.heap.objs.size ≤ c := by
        rcases e' with z | z | z | z | z <;> (rw [z]; show @LE.le Nat _ _ _; omega)
      exact I1.fpOk hle (I1.hok.fresh hle)
section
variable {G : Gr} {W : Row} {d : Nat} {N : List PySem.Str} {sc : Scope} {E : XK} {X : Cx} {φ η : List Addr} {H : Hp} {S : PSt}
theorem SrcV.sq {its : List PV} {g : Gd} {a : Addr} {k : Bool} (K : PySem.W.Frag) (s : SrcV G S φ η H its g a k) {φ' η' : List Addr} {H' : Hp} {S' : PSt} (he : HExt H η η') (x : ExtW η φ φ' H H') (hs : StRep G φ' η' H' S') (hg : gdOk g S') :
    ∃ us, Reps G φ' η' H' its us ∧ SqK k K H' a us := by
  obtain ⟨us, r, e⟩ := s.at he x hs hg
  cases k with
  | true => rw [if_pos rfl] at e; exact ⟨us, r, .inl (.inl e)⟩
  | false => rw [if_neg Bool.false_ne_true] at e; exact ⟨us, r, .inl (.inl e)⟩
theorem zipL_length : ∀ xs ys : List PV, (zipL xs ys).length = min xs.length ys.length
  | [], _ => by simp [zipL]
  | _ :: _, [] => by simp [zipL]
  | x :: xs, y :: ys => by simp only [zipL, List.length_cons, zipL_length xs ys]; omega
theorem zipL_get : ∀ (xs ys : List PV) (i : Nat) (x y : PV), xs[i]? = some x → ys[i]? = some y → (zipL xs ys)[i]? = some (.tup [x, y])
  | [], _, _, _, _, h, _ => by simp at h
  | _ :: _, [], _, _, _, _, h => by simp at h
  | x :: xs, y :: ys, 0, _, _, h, h' => by simp at h h'; subst h h'; rfl
  | x :: xs, y :: ys, i + 1, u, v, h, h' => by simpa [zipL] using zipL_get xs ys i u v (by simpa using h) (by simpa using h')
theorem enumL_length : ∀ (xs : List PV) (n : Nat), (enumL n xs).length = xs.length
  | [], _ => rfl
  | x :: xs, n => by simp only [enumL, List.length_cons, enumL_length xs]
theorem enumL_get : ∀ (xs : List PV) (n i : Nat) (x : PV), xs[i]? = some x → (enumL n xs)[i]? = some (.tup [.int ((n + i : Nat) : Int), x])
  | [], _, _, _, h => by simp at h
  | x :: xs, n, 0, _, h => by simp at h; subst h; rfl
  | x :: xs, n, i + 1, u, h => by
    have := enumL_get xs (n + 1) i u (by simpa using h)
    rw [show n + 1 + i = n + (i + 1) by omega] at this
    simpa [enumL] using this
theorem src_zip {xs ys : List PV} {g g' : Gd} {a b : Addr} {ka kb : Bool} (K : PySem.W.Frag) (s : SrcV G S φ η H xs g a ka) (t : SrcV G S φ η H ys g' b kb) : SrcOk G (ItzM K ka kb a b) (zipL xs ys) (g ++ g') φ η H := fun φ' η' H' S' he x hs hg => by
  obtain ⟨us, r, q⟩ := s.sq K he x hs fun p hp => hg p (List.mem_append_left _ hp)
  obtain ⟨ws, r', q'⟩ := t.sq K he x hs fun p hp => hg p (List.mem_append_right _ hp)
  rw [zipL_length]
  refine ⟨fun i hi => ?_, us, ws, q, q', by rw [r.length, r'.length]⟩
  have h1 : i < us.length := by rw [← r.length]; omega
  have h2 : i < ws.length := by rw [← r'.length]; omega
  refine ⟨⟨us, ws, us[i], ws[i], q, q', by simp [h1], by simp [h2]⟩, fun y H2 h => ?_⟩
  obtain ⟨T, u, v, e1, e2, e3, e4, e5⟩ := h
  subst e1 e3
  have z1 := e4 us q
  have z2 := e5 ws q'
  obtain ⟨u', k1, k2⟩ := r.get (i := i) (p := xs[i]'(by omega)) (by simp)
  obtain ⟨v', k3, k4⟩ := r'.get (i := i) (p := ys[i]'(by omega)) (by simp)
  rw [z1] at k1
  rw [z2] at k3
  cases k1
  cases k3
  exact ⟨.new e2, hs.new e2, _, zipL_get xs ys i (xs[i]'(by omega)) (ys[i]'(by omega)) (by simp) (by simp), rep_newT hs e2 ⟨u, [v], rfl, k2, v, [], rfl, k4, rfl⟩⟩
theorem src_enum {xs : List PV} {g : Gd} {a : Addr} (K : PySem.W.Frag) (s : SrcV G S φ η H xs g a true) : SrcOk G (Ite K a) (enumL 0 xs) g φ η H := fun φ' η' H' S' he x hs hg => by
  obtain ⟨us, r, q⟩ := s.sq K he x hs hg
  rw [enumL_length]
  refine ⟨fun i hi => ?_, us, q, by rw [r.length]; exact Nat.le_refl _⟩
  have h1 : i < us.length := by rw [← r.length]; omega
  refine ⟨⟨us, us[i], q, by simp [h1]⟩, fun y H2 h => ?_⟩
  obtain ⟨T, u, e1, e2, e3, e4⟩ := h
  subst e1 e3
  have z1 := e4 us q
  obtain ⟨u', k1, k2⟩ := r.get (i := i) (p := xs[i]'(by omega)) (by simp)
  rw [z1] at k1
  cases k1
  have e := enumL_get xs 0 i (xs[i]'(by omega)) (by simp)
  rw [Nat.zero_add] at e
  exact ⟨.new e2, hs.new e2, _, e, rep_newT hs e2 ⟨_, [u], rfl, rfl, u, [], rfl, k2, rfl⟩⟩
theorem r_zip (c : Cz G W d N sc E X) {e f : Expr} {x : PySem.Str} {p p2 tpos : Pos} {elts : List Expr} {kk : Nat} {ra rb : Pw.Env → PSt → R PV} (h1 : bltB W sc x "zip" = true) (ho : okE e = true) (ho2 : okE f = true) (ha : PE X e (TEv G E ra)) (hb : PE X f (TEv G E rb)) :
    PI X (.Tuple elts kk tpos) (.Call (.Name x p) [e, f] [] p2) (TIv G E fun ρ S => (ra ρ S).bind fun v S => (rb ρ S).bind fun w S => if isStr v || isStr w then .err else (match srcL S v, srcL S w with
    | some p, some q => .ok (zipL p.1 q.1, p.2 ++ q.2) S
    | _, _ => .err)) := by
  obtain ⟨e1, hg, hmg, _, _⟩ := blt_parts c h1
  subst e1
  refine imp_I (pi_zipM hg hmg (pa_cons ha (pa_cons hb pa_nil (okE_star ho2)) (okE_star ho)) (okE_star ho) (star2 ho2 _ _)) fun σ H Q φ η ρ S hs hρ hp => ?_
  refine ⟨φ, η, ρ, S, hs, hρ, hp.bind (rel' := relV G) fun v S1 φ1 H1 x x1 hs1 rx hp1 => ?_⟩
  refine ⟨φ1, η, ρ, S1, hs1, hρ.mono x1, hp1.bind (rel' := relV G) fun w S2 φ2 H2 y x2 hs2 ry hp2 => ?_⟩
  have rx2 := rx.mono x2
  by_cases hz : (isStr v || isStr w) = true
  · rw [if_pos hz] at hp2; exact (hp2 : False).elim
  · rw [if_neg hz] at hp2
    simp only [Bool.or_eq_true, not_or] at hz
    cases q : srcL S2 v with
    | none => simp only [q] at hp2; exact (hp2 : False).elim
    | some pp =>
      cases q' : srcL S2 w with
      | none => simp only [q, q'] at hp2; exact (hp2 : False).elim
      | some qq =>
        simp only [q, q'] at hp2
        rcases srcL_rep hs2 rx2 q with ⟨a, ka, ea, sa⟩ | ⟨z, e1, _⟩
        · rcases srcL_rep hs2 ry q' with ⟨b, kb, eb, sb⟩ | ⟨z, e1, _⟩
          · obtain ⟨us, _, k1⟩ := sa.sq X.K (.refl _ _) (Ext.refl _ _).w hs2 (srcL_gd q)
            obtain ⟨ws, _, k2⟩ := sb.sq X.K (.refl _ _) (Ext.refl _ _).w hs2 (srcL_gd q')
            exact ⟨a, b, ka, kb, us, ws, by rw [ea, eb], k1, k2, hp2 φ2 H2 _ (.refl _ _) hs2 (src_zip X.K sa sb)⟩
          · subst e1; exact absurd rfl hz.2
        · subst e1; exact absurd rfl hz.1
theorem r_enum (c : Cz G W d N sc E X) {e : Expr} {x : PySem.Str} {p p2 tpos : Pos} {elts : List Expr} {kk : Nat} {ra : Pw.Env → PSt → R PV} (h1 : bltB W sc x "enumerate" = true) (ho : okE e = true) (ha : PE X e (TEv G E ra)) :
    PI X (.Tuple elts kk tpos) (.Call (.Name x p) [e] [] p2) (TIv G E fun ρ S => (ra ρ S).bind fun v S => (match v, srcL S v with
    | .tup _, _ => .err
    | .str _, _ => .err
    | _, some p => .ok (enumL 0 p.1, p.2) S
    | _, none => .err)) := by
  obtain ⟨e1, hg, hmg, _, _⟩ := blt_parts c h1
  subst e1
  refine imp_I (pi_enum hg hmg (pa_cons ha pa_nil (okE_star ho)) (okE_star ho)) fun σ H Q φ η ρ S hs hρ hp => ?_
  refine ⟨φ, η, ρ, S, hs, hρ, hp.bind (rel' := relV G) fun v S1 φ1 H1 x x1 hs1 rx hp1 => ?_⟩
  cases q : srcL S1 v with
  | none => cases v <;> (simp only [q] at hp1; exact (hp1 : False).elim)
  | some pp =>
    have key : (∀ ts, v ≠ .tup ts) → (∀ z, v ≠ .str z) → Post G (relI G) E φ1 η H1 Q (.ok (enumL 0 pp.1, pp.2) S1) → ∃ a xs, [x] = [V.ref a] ∧ SqL X.K H1 a xs ∧ Q (Ite X.K a) H1 := fun nt ns hp2 => by
      rcases srcL_rep hs1 rx q with ⟨a, ka, ea, sa⟩ | ⟨z, e1, _⟩
      · obtain ⟨us, _, k1⟩ := sa.sq X.K (.refl _ _) (Ext.refl _ _).w hs1 (srcL_gd q)
        cases ka with
        | true => exact ⟨a, us, by rw [ea], k1, hp2 φ1 H1 _ (.refl _ _) hs1 (src_enum X.K sa)⟩
        | false =>
          exfalso
          cases v with
          | tup ts => exact nt ts rfl
          | str z => exact ns z rfl
          | lst ts => cases q; cases sa with | tup h n n' r e => obtain ⟨a', us', z1, z2, _⟩ := rx; rw [ea] at z1; cases z1; rw [h] at z2; cases z2
          | ref m =>
            simp only [srcL] at q
            split at q
            · cases q
              cases sa with
              | tup h n n' r e => cases e
            · cases q
          | _ => cases q
      · exact absurd e1 (ns z)
    cases v with
    | tup _ => exact (hp1 : False).elim
    | str _ => exact (hp1 : False).elim
    | lst _ => simp only [q] at hp1; exact key (by intro _ z; cases z) (by intro _ z; cases z) hp1
    | ref _ => simp only [q] at hp1; exact key (by intro _ z; cases z) (by intro _ z; cases z) hp1
    | _ => cases q
end
end Pw
/-! Pw14: targets, comprehensions. -/
namespace Pw
open PySem PySem.Spec PyProof.Rows L2
/-! ### slots forgotten -/
theorem wipe_get (σ : L2.St) (j : Nat) : ∀ vs : List Nat, (L2.wipe σ vs)[j]? = if j ∈ vs then (if j < σ.length then some none else none) else σ[j]?
  | [] => by simp [L2.wipe]
  | v :: vs => by
    unfold L2.wipe
    by_cases h : v = j
    · subst h
      rw [if_pos List.mem_cons_self]
      by_cases h2 : v < σ.length
      · rw [if_pos h2, List.getElem?_set_self (by rw [L2.wipe_length]; exact h2)]
      · rw [if_neg h2, List.getElem?_eq_none (by rw [List.length_set, L2.wipe_length]; omega)]
    · rw [List.getElem?_set_ne h, wipe_get σ j vs]
      by_cases h2 : j ∈ vs
      · rw [if_pos h2, if_pos (List.mem_cons_of_mem _ h2)]
      · rw [if_neg h2, if_neg (fun z => by rcases List.mem_cons.mp z with z | z; exact h z.symm; exact h2 z)]
theorem wipe_set {σ : L2.St} {i : Nat} {x : Option V} {vs : List Nat} (h : i ∈ vs) : L2.wipe (σ.set i x) vs = L2.wipe σ vs := by
  apply List.ext_getElem?
  intro j
  rw [wipe_get, wipe_get, List.length_set]
  by_cases hj : j ∈ vs
  · rw [if_pos hj, if_pos hj]
  · rw [if_neg hj, if_neg hj, List.getElem?_set_ne (fun (z : i = j) => hj (z ▸ h))]
theorem wipe_wipe (σ : L2.St) (vs : List Nat) : L2.wipe (L2.wipe σ vs) vs = L2.wipe σ vs := by
  apply List.ext_getElem?
  intro j
  rw [wipe_get, L2.wipe_length]
  by_cases hj : j ∈ vs
  · rw [if_pos hj, wipe_get, if_pos hj]
  · rw [if_neg hj]
section
variable {G : Gr} {W : Row} {d : Nat} {N : List PySem.Str} {sc : Scope} {E : XK} {X : Cx} {φ η : List Addr} {H : Hp} {S : PSt}
/-- a plain reading of a target -/
def TGv (G : Gr) (t : Tg) : TG := fun v σ H Q => ∃ φ η ρ p ρ', ERep G φ η H ρ σ ∧ Rep G φ η H p v ∧ bindT t p ρ = some ρ' ∧ ∀ σ', ERep G φ η H ρ' σ' → (∀ vs : List Nat, (∀ i ∈ t.slots, i ∈ vs) → L2.wipe σ' vs = L2.wipe σ vs) → Q σ' H
def TGsv (G : Gr) (ts : List Tg) : TGs := fun vs σ H Q => ∃ φ η ρ ps ρ', ERep G φ η H ρ σ ∧ Reps G φ η H ps vs ∧ bindTs ts ps ρ = some ρ' ∧ ∀ σ', ERep G φ η H ρ' σ' → (∀ vs : List Nat, (∀ i ∈ Tg.slotss ts, i ∈ vs) → L2.wipe σ' vs = L2.wipe σ vs) → Q σ' H
def imp_PG {X : Cx} {e : Expr} {t t' : TG} (h : PG X e t) (i : ∀ v σ H Q, t' v σ H Q → t v σ H Q) : PG X e t' := ⟨fun pins s σ H v u Q I r q => h.run pins s σ H v u Q I r (i v σ H Q q)⟩
def imp_PGs {X : Cx} {e : List Expr} {t t' : TGs} (h : PGs X e t) (i : ∀ v σ H Q, t' v σ H Q → t v σ H Q) : PGs X e t' := ⟨fun pins s σ H v u Q I r q => h.run pins s σ H v u Q I r (i v σ H Q q)⟩
theorem each_mT {sc : Scope} (env : PySem.Env) : ∀ (ts : List Tg) (es : List Expr), mTs N sc ts es = true → (assignEach es env).length = ts.length ∧ (assignEach es env).findIdx? (·.1) = none
  | [], es, h => by
    unfold mTs at h
    cases es with
    | nil => exact ⟨rfl, rfl⟩
    | cons e r => cases h
  | t :: ts, es, h => by
    unfold mTs at h
    cases es with
    | nil => cases h
    | cons e r =>
      simp only [Bool.and_eq_true] at h
      obtain ⟨h1, h2⟩ := each_mT env ts r h.2
      have e1 : assignEach (e :: r) env = (false, assign e env) :: assignEach r env := by
        cases t with
        | nm i => cases e <;> first | rfl | exact (Bool.false_ne_true (by simpa [mT] using h.1)).elim
        | tp qs => cases e <;> first | rfl | exact (Bool.false_ne_true (by simpa [mT] using h.1)).elim
      rw [e1]
      exact ⟨by rw [List.length_cons, List.length_cons, h1], by rw [List.findIdx?_cons, h2]; rfl⟩
mutual
theorem tgt (hN : X.N = N) (nd : N.Nodup) (hc : X.calm = true) {sc : Scope} (hf : ∀ x, locB sc x = true → Loc X.env.scope x ∧ (X.fn x = true ∨ X.env.scope.names.lookup x = some .local)) : ∀ (t : Tg) (e : Expr), mT N sc t e = true → PG X e (TGv G t)
  | .nm i, e, h => by
    unfold mT at h
    split at h
    · simp only [Bool.and_eq_true, decide_eq_true_eq] at h
      obtain ⟨f1, f2⟩ := hf _ h.2
      refine imp_PG (pg_name (i := i) (by rw [hN]; exact nd) (by rw [hN]; exact h.1) f1 f2) fun v σ H Q q => ?_
      obtain ⟨φ, η, ρ, p, ρ', hρ, rp, hb, hq⟩ := q
      unfold bindT at hb
      split at hb
      · cases hb
        exact hq _ (hρ.set rp) fun vs hv => wipe_set (hv i List.mem_cons_self)
      · cases hb
    · cases h
  | .tp ts, e, h => by
    unfold mT at h
    split at h
    · rename_i es k p
      obtain ⟨l1, l2⟩ := each_mT X.env ts es h
      refine imp_PG (pg_tup hc (tgts hN nd hc hf ts es h) l1 l2) fun v σ H Q q => ?_
      obtain ⟨φ, η, ρ, p, ρ', hρ, rp, hb, hq⟩ := q
      cases p with
      | tup xs =>
        unfold bindT at hb
        split at hb
        · rename_i hl
          obtain ⟨a, us, e1, e2, _, _, rr⟩ := rp
          exact ⟨a, us, e1, .inl (.inl e2), by rw [← rr.length, hl], φ, η, ρ, xs, ρ', hρ, rr, hb, hq⟩
        · cases hb
      | _ => cases hb
    · cases h
theorem tgts (hN : X.N = N) (nd : N.Nodup) (hc : X.calm = true) {sc : Scope} (hf : ∀ x, locB sc x = true → Loc X.env.scope x ∧ (X.fn x = true ∨ X.env.scope.names.lookup x = some .local)) : ∀ (ts : List Tg) (es : List Expr), mTs N sc ts es = true → PGs X es (TGsv G ts)
  | [], es, h => by
    unfold mTs at h
    cases es with
    | nil =>
      refine imp_PGs pgs_nil fun v σ H Q q => ?_
      obtain ⟨φ, η, ρ, ps, ρ', hρ, rp, hb, hq⟩ := q
      cases ps with
      | nil =>
        cases hb
        exact ⟨rp, hq σ hρ fun _ _ => rfl⟩
      | cons _ _ => cases hb
    | cons e r => cases h
  | t :: ts, es, h => by
    unfold mTs at h
    cases es with
    | nil => cases h
    | cons e r =>
      simp only [Bool.and_eq_true] at h
      have e1 : assignEach (e :: r) X.env = (false, assign e X.env) :: assignEach r X.env := by
        cases t with
        | nm i => cases e <;> first | rfl | exact (Bool.false_ne_true (by simpa [mT] using h.1)).elim
        | tp qs => cases e <;> first | rfl | exact (Bool.false_ne_true (by simpa [mT] using h.1)).elim
      refine imp_PGs (pgs_cons (tgt hN nd hc hf t e h.1) (tgts hN nd hc hf ts r h.2) (by rw [e1]; rfl)) fun v σ H Q q => ?_
      obtain ⟨φ, η, ρ, ps, ρ', hρ, rp, hb, hq⟩ := q
      cases ps with
      | nil => cases hb
      | cons p ps =>
        obtain ⟨u, us, e2, r1, r2⟩ := rp
        unfold bindTs at hb
        split at hb
        · rename_i ρ1 hb1
          refine ⟨u, us, e2, φ, η, ρ, p, ρ1, hρ, r1, hb1, fun σ1 hρ1 w1 => ?_⟩
          refine ⟨φ, η, ρ1, ps, ρ', hρ1, r2, hb, fun σ2 hρ2 w2 => hq σ2 hρ2 fun vs hv => ?_⟩
          rw [w2 vs fun i hi => hv i (by unfold Tg.slotss; exact List.mem_append_right _ hi), w1 vs fun i hi => hv i (by unfold Tg.slotss; exact List.mem_append_left _ hi)]
        · cases hb
end
end
end Pw
/-! Pw15: comprehensions. -/
namespace Pw
open PySem PySem.Spec PyProof.Rows L2
/-- no error -/
def EF : XK := fun _ _ _ => False
section
variable {G : Gr} {φ η η' : List Addr} {H H' : Hp} {S : PSt} {D : Addr}
theorem Rd.same {a : Addr} {u : HO} (e : H' a = H a) (h : Rd H a u) : Rd H' a u := by
  rcases h with h | ⟨o, h⟩
  · exact .inl (e.trans h)
  · exact .inr ⟨o, e.trans h⟩
mutual
theorem Rep.same (hd : D ∈ η) (x : ∀ a, a ≠ D → H' a = H a) : ∀ {p : PV} {v : V}, Rep G φ η H p v → Rep G φ η H' p v
  | .non, _, h => h
  | .bl _, _, h => h
  | .int _, _, h => h
  | .str _, _, h => h
  | .tup xs, _, h => by
    obtain ⟨a, vs, e, r, n, n', q⟩ := h
    exact ⟨a, vs, e, (x a fun z => n' (z ▸ hd)).trans r, n, n', Reps.same hd x q⟩
  | .lst xs, _, h => by
    obtain ⟨a, vs, e, r, n, n', q⟩ := h
    exact ⟨a, vs, e, (x a fun z => n' (z ▸ hd)).trans r, n, n', Reps.same hd x q⟩
  | .ref _, _, h => h
  | .fn _, _, h => h
  | .cls _, _, h => h
  | .exn _ _, _, h => h
  | .scr ns, _, h => by
    obtain ⟨a, e, r⟩ := h
    exact ⟨a, e, r.imp (fun ⟨r, n, n'⟩ => ⟨Rd.same (x a fun z => n' (z ▸ hd)) r, n, n'⟩) id⟩
theorem Reps.same (hd : D ∈ η) (x : ∀ a, a ≠ D → H' a = H a) : ∀ {ps : List PV} {vs : List V}, Reps G φ η H ps vs → Reps G φ η H' ps vs
  | [], _, h => h
  | _ :: _, _, h => by
    obtain ⟨u, us, e, r, q⟩ := h
    exact ⟨u, us, e, Rep.same hd x r, Reps.same hd x q⟩
end
theorem HExt.weak : HExt H (D :: η) η := fun _ h => .inl (List.mem_cons_of_mem _ h)
theorem tabs_same {Ts : List (Addr × PySem.Str)} {vs : List V} (h : LamX.Tabs Ts H) (e : H D = some (.lst vs)) (x : ∀ a, a ≠ D → H' a = H a) : LamX.Tabs Ts H' := fun p hp => by
  obtain ⟨ps, h1, h2, h3⟩ := h p hp
  refine ⟨ps, ?_, h2, fun pos cv hc => ?_⟩
  · rw [x]
    · exact h1
    · intro z; rw [z, e] at h1; cases h1
  · obtain ⟨c, q1, q2⟩ := h3 pos cv hc
    refine ⟨c, q1, ?_⟩
    rw [x]
    · exact q2
    · intro z; rw [z, e] at q2; cases q2
/-- the state within a comprehension whose list stands at D -/
structure CSt (G : Gr) (φ1 η : List Addr) (D : Addr) (H1 : Hp) (φ2 : List Addr) (S2 : PSt) (acc : List PV) (H : Hp) : Prop where
  new : H1 D = none
  nE : D ∉ η
  ext : Ext φ1 φ2 H1 H
  nD : D ∉ φ2
  st : StRep G φ2 (D :: η) H S2
  acc : ∃ us, H D = some (.lst us) ∧ Reps G φ2 (D :: η) H acc us
theorem HExt.new (h : H D = none) : HExt H η (D :: η) := fun a ha => by
  rcases List.mem_cons.mp ha with z | z
  · rw [z]; exact .inr h
  · exact .inl z
theorem ORep.hmono {o : PO} {a : Addr} (x : HExt H η η') (h : ORep G φ η H o a) : ORep G φ η' H o a := by
  cases o with
  | lst xs => obtain ⟨vs, q, r⟩ := h; exact ⟨vs, q, r.hmono x⟩
  | dct kvs => exact h
theorem ORep.same {o : PO} {a : Addr} (hd : D ∈ η) (x : ∀ a, a ≠ D → H' a = H a) (ha : a ≠ D) (h : ORep G φ η H o a) : ORep G φ η H' o a := by
  cases o with
  | lst xs => obtain ⟨vs, q, r⟩ := h; exact ⟨vs, (x a ha).trans q, r.same hd x⟩
  | dct kvs => exact h
theorem CSt.start (hs : StRep G φ η H S) (hD : H D = none) : CSt G φ η D H φ S [] (upd H D (.lst [])) where
  new := hD
  nE := fun z => by obtain ⟨o, e, _⟩ := hs.hid D z; rw [hD] at e; cases e
  ext := .new hD
  nD := fun z => by obtain ⟨o, e, _⟩ := hs.mem z; rw [hD] at e; cases e
  st := by
    have q := hs.new (p := D) (o := .lst []) hD
    refine ⟨fun a ha => ?_, q.nd, q.len, fun n u a e1 e2 => ?_, q.tabs⟩
    · rcases List.mem_cons.mp ha with z | z
      · rw [z]; exact ⟨_, upd_same, .lst⟩
      · exact q.hid a z
    · have e := hs.objs n u a e1 e2
      refine ORep.mono (.new hD) (e.hmono (.new hD)) fun vs z => ?_
      rw [upd_ne (ne_of_none z hD)]
      exact z
  acc := ⟨[], upd_same, rfl⟩
section
variable {φ1 φ2 φ3 : List Addr} {H1 H3 : Hp} {S2 S3 : PSt} {acc : List PV}
theorem CSt.step (c : CSt G φ1 η D H1 φ2 S2 acc H) (x : Ext φ2 φ3 H H3) (hs : StRep G φ3 (D :: η) H3 S3) : CSt G φ1 η D H1 φ3 S3 acc H3 where
  new := c.new
  nE := c.nE
  ext := c.ext.trans x
  nD := by obtain ⟨us, e, _⟩ := c.acc; exact x.notin e .lst c.nD
  st := hs
  acc := by
    obtain ⟨us, e, r⟩ := c.acc
    exact ⟨us, x.keep _ _ e c.nD (fun ps z => by cases z), r.mono x⟩
theorem CSt.app (c : CSt G φ1 η D H1 φ2 S2 acc H) {v : PV} {y : V} (r : Rep G φ2 (D :: η) H v y) : ∃ us, H D = some (.lst us) ∧ us.length = acc.length ∧ CSt G φ1 η D H1 φ2 S2 (acc ++ [v]) (upd H D (.lst (us ++ [y]))) := by
  obtain ⟨us, e, rs⟩ := c.acc
  have sm : ∀ a, a ≠ D → upd H D (.lst (us ++ [y])) a = H a := fun a ha => upd_ne ha
  have md : D ∈ D :: η := List.mem_cons_self
  refine ⟨us, e, rs.length.symm, c.new, c.nE, ⟨c.ext.pre, fun a o h n t => ?_, fun a o h t => ?_⟩, c.nD, ⟨fun a ha => ?_, c.st.nd, c.st.len, fun n u a e1 e2 => ?_, tabs_same c.st.tabs e sm⟩, us ++ [y], upd_same, (rs.append (.one r)).same md sm⟩
  · rw [sm a (ne_of_none h c.new)]; exact c.ext.keep a o h n t
  · rw [sm a (ne_of_none h c.new)]; exact c.ext.there a o h t
  · by_cases z : a = D
    · rw [z]; exact ⟨_, upd_same, .lst⟩
    · rw [sm a z]; exact c.st.hid a ha
  · exact (c.st.objs n u a e1 e2).same md sm fun z => c.nD (by rw [← z]; exact List.mem_of_getElem? e2)
theorem CSt.fin (c : CSt G φ1 η D H1 φ2 S2 acc H) {Q : VK} (q : ∀ φ' H' us, Ext φ1 φ' H1 H' → StRep G φ' η H' S2 → Reps G φ' η H' acc us → QL Q us H') : Q (.ref D) H := by
  obtain ⟨us, e, rs⟩ := c.acc
  have sm : ∀ a, a ≠ D → (fun b => if b = D then none else H b : Hp) a = H a := fun a ha => if_neg ha
  have md : D ∈ D :: η := List.mem_cons_self
  have z := q φ2 (fun b => if b = D then none else H b) us ⟨c.ext.pre, fun a o h n t => (sm a (ne_of_none h c.new)).trans (c.ext.keep a o h n t), fun a o h t => let ⟨o', z, t'⟩ := c.ext.there a o h t; ⟨o', (sm a (ne_of_none h c.new)).trans z, t'⟩⟩
    ⟨fun a ha => ?_, c.st.nd, c.st.len, fun n u a e1 e2 => ((c.st.objs n u a e1 e2).same md sm fun z => c.nD (by rw [← z]; exact List.mem_of_getElem? e2)).hmono .weak, tabs_same c.st.tabs e sm⟩ ((rs.same md sm).hmono .weak) D (if_pos rfl)
  · have : upd (fun b => if b = D then none else H b) D (.lst us) = H := by
      funext a
      by_cases ha : a = D
      · rw [ha, upd_same, e]
      · rw [upd_ne ha]; exact sm a ha
    rw [this] at z
    exact z
  · by_cases hz : a = D
    · exact absurd (hz ▸ ha) c.nE
    · obtain ⟨o, z, t⟩ := c.st.hid a (List.mem_cons_of_mem _ ha)
      exact ⟨o, (sm a hz).trans z, t⟩
end
theorem compL_cons {f : PV → PSt → R (List PV)} {g : Gd} {x : PV} {xs : List PV} {S Sf : PSt} {r : List PV} (h : compL f g (x :: xs) S = .ok r Sf) : gdOk g S ∧ ∃ o S1 r1, f x S = .ok o S1 ∧ compL f g xs S1 = .ok r1 Sf ∧ r = o ++ r1 := by
  unfold compL at h
  by_cases q : gdOk g S
  · rw [if_pos q] at h
    refine ⟨q, ?_⟩
    cases hf : f x S with
    | ok o S1 =>
      rw [hf] at h
      cases hc : compL f g xs S1 with
      | ok r1 S2 =>
        simp only [R.bind, hc] at h
        cases h
        exact ⟨o, S1, r1, rfl, hc, rfl⟩
      | exc c vs S' => simp only [R.bind, hc] at h; cases h
      | err => simp only [R.bind, hc] at h; cases h
    | exc c vs S' => rw [hf] at h; cases h
    | err => rw [hf] at h; cases h
  · rw [if_neg q] at h; cases h
theorem compL_nil {f : PV → PSt → R (List PV)} {g : Gd} {S Sf : PSt} {r : List PV} (h : compL f g [] S = .ok r Sf) : gdOk g S ∧ r = [] ∧ S = Sf := by
  unfold compL at h
  by_cases q : gdOk g S
  · rw [if_pos q] at h; cases h; exact ⟨q, rfl, rfl⟩
  · rw [if_neg q] at h; cases h
theorem compL_noexc {f : PV → PSt → R (List PV)} {g : Gd} (hf : ∀ x S c vs S', f x S ≠ .exc c vs S') : ∀ (xs : List PV) (S : PSt) (c : XC) (vs : List PV) (S' : PSt), compL f g xs S ≠ .exc c vs S'
  | [], S, c, vs, S' => by
    unfold compL
    by_cases q : gdOk g S
    · rw [if_pos q]; simp
    · rw [if_neg q]; simp
  | x :: xs, S, c, vs, S' => by
    unfold compL
    by_cases q : gdOk g S
    · rw [if_pos q]
      cases h : f x S with
      | ok o S1 =>
        simp only [R.bind]
        cases hc : compL f g xs S1 with
        | ok r1 S2 => simp
        | exc c' vs' S' => exact absurd hc (compL_noexc hf xs S1 c' vs' S')
        | err => simp
      | exc c' vs' S1 => exact absurd h (hf x S c' vs' S1)
      | err => simp [R.bind]
    · rw [if_neg q]; simp
theorem noX_ne {α : Type} {r : R α} {c : XC} {vs : List PV} {S' : PSt} : noX r ≠ .exc c vs S' := by cases r <;> simp [noX]
theorem turn1_ne {t : Tg} {own : List Nat} {rc : Pw.Env → PSt → R Bool} {re : Pw.Env → PSt → R PV} {ρ : Pw.Env} (x : PV) (S : PSt) (c : XC) (vs : List PV) (S' : PSt) : turn1 t own rc re ρ x S ≠ .exc c vs S' := by
  unfold turn1
  split
  · exact noX_ne
  · simp
theorem turn2_ne {t : Tg} {own : List Nat} {rs : Pw.Env → PSt → R (List PV × Gd)} {t2 : Tg} {own2 : List Nat} {rc : Pw.Env → PSt → R Bool} {re : Pw.Env → PSt → R PV} {ρ : Pw.Env} (x : PV) (S : PSt) (c : XC) (vs : List PV) (S' : PSt) : turn2 t own rs t2 own2 rc re ρ x S ≠ .exc c vs S' := by
  unfold turn2
  split
  · rename_i ρ' _
    cases h : rs ρ' S with
    | ok p S1 => exact compL_noexc turn1_ne _ _ _ _ _
    | exc c vs S' => simp [noX, R.bind]
    | err => simp [noX, R.bind]
  · simp
theorem turn1_ok {t : Tg} {own : List Nat} {rc : Pw.Env → PSt → R Bool} {re : Pw.Env → PSt → R PV} {ρ : Pw.Env} {x : PV} {S S1 : PSt} {o : List PV} (h : turn1 t own rc re ρ x S = .ok o S1) :
    ∃ ρ', bindT t x (wipeE ρ own) = some ρ' ∧ ((rc ρ' S = .ok false S1 ∧ o = []) ∨ (∃ S2 v, rc ρ' S = .ok true S2 ∧ re ρ' S2 = .ok v S1 ∧ o = [v])) := by
  unfold turn1 at h
  split at h
  · rename_i ρ' hb
    refine ⟨ρ', hb, ?_⟩
    cases h1 : rc ρ' S with
    | ok k S2 =>
      rw [h1] at h
      cases k with
      | false =>
        simp only [R.bind, Bool.false_eq_true, if_false, noX] at h
        cases h
        exact .inl ⟨rfl, rfl⟩
      | true =>
        cases h2 : re ρ' S2 with
        | ok v S3 =>
          simp only [R.bind, if_true, h2, noX] at h
          cases h
          exact .inr ⟨S2, v, rfl, h2, rfl⟩
        | exc c vs S' => simp only [R.bind, if_true, h2, noX] at h; cases h
        | err => simp only [R.bind, if_true, h2, noX] at h; cases h
    | exc c vs S' => rw [h1] at h; cases h
    | err => rw [h1] at h; cases h
  · cases h
theorem turn2_ok {t : Tg} {own : List Nat} {rs : Pw.Env → PSt → R (List PV × Gd)} {t2 : Tg} {own2 : List Nat} {rc : Pw.Env → PSt → R Bool} {re : Pw.Env → PSt → R PV} {ρ : Pw.Env} {x : PV} {S S1 : PSt} {o : List PV} (h : turn2 t own rs t2 own2 rc re ρ x S = .ok o S1) :
    ∃ ρ' p S2, bindT t x (wipeE ρ own) = some ρ' ∧ rs ρ' S = .ok p S2 ∧ compL (turn1 t2 own2 rc re ρ') p.2 p.1 S2 = .ok o S1 := by
  unfold turn2 at h
  split at h
  · rename_i ρ' hb
    cases h1 : rs ρ' S with
    | ok p S2 =>
      rw [h1] at h
      exact ⟨ρ', p, S2, hb, h1, h⟩
    | exc c vs S' => rw [h1] at h; cases h
    | err => rw [h1] at h; cases h
  · cases h
theorem cap_ok {E : XK} {φ η : List Addr} {H : Hp} {Q : List V → Hp → Prop} {r : R (List PV)} (hn : ∀ c vs S', r ≠ .exc c vs S') (h : Post G (relVs G) E φ η H Q (r.bind capL)) : ∃ vs Sf, r = .ok vs Sf ∧ vs.length ≤ LIM ∧ Post G (relVs G) E φ η H Q (.ok vs Sf) := by
  cases r with
  | ok vs Sf =>
    have h : Post G (relVs G) E φ η H Q (if vs.length ≤ LIM then .ok vs Sf else .err) := h
    obtain ⟨q, h⟩ := post_if h
    exact ⟨vs, Sf, rfl, q, h⟩
  | exc c vs S' => exact absurd rfl (hn c vs S')
  | err => exact (h : False).elim
theorem drop_at {xs : List PV} {i : Nat} {p : PV} (h : xs[i]? = some p) : xs.drop i = p :: xs.drop (i + 1) := by
  obtain ⟨hi, e⟩ := List.getElem?_eq_some_iff.mp h
  rw [List.drop_eq_getElem_cons hi, e]
theorem comp_imp {E : XK} {rs : Pw.Env → PSt → R (List PV × Gd)} {rc : Pw.Env → PSt → R Bool} {re : Pw.Env → PSt → R PV} {t : Tg} {own : List Nat} (hsl : ∀ i ∈ t.slots, i ∈ own) {σ : L2.St} {H : Hp} {Q : VK}
    (h : TLv G E (fun ρ S => (rs ρ S).bind fun p S => (compL (turn1 t own rc re ρ) p.2 p.1 S).bind capL) σ H Q) : tLc (TIv G E rs) (TGv G t) (TTv G EF rc) (TEv G EF re) own σ H Q := by
  obtain ⟨φ, η, ρ, S, hs, hρ, hp⟩ := h
  refine ⟨φ, η, ρ, S, hs, hρ, hp.bind (rel' := relI G) fun p S1 φ1 H1 J x1 hs1 src hp1 D hD => ?_⟩
  obtain ⟨vs, Sf, e, hl, hp2⟩ := cap_ok (compL_noexc turn1_ne _ _) hp1
  have hρ1 := hρ.mono x1
  have hx : HExt H1 η (D :: η) := .new hD
  have hρD : ERep G φ1 (D :: η) H1 ρ σ := ⟨hρ1.1, fun i p e => let ⟨v, e1, r⟩ := hρ1.2 i p e; ⟨v, e1, r.hmono hx⟩⟩
  refine ⟨fun i m H => m = p.1.length - i ∧ i ≤ p.1.length ∧ ∃ φ2 S2 acc r, CSt G φ1 η D H1 φ2 S2 acc H ∧ compL (turn1 t own rc re ρ) p.2 (p.1.drop i) S2 = .ok r Sf ∧ vs = acc ++ r, ⟨_, rfl, Nat.zero_le _, φ1, S1, [], vs, .start hs1 hD, e, rfl⟩, ?_⟩
  rintro i m H ⟨rfl, hi, φ2, S2, acc, r, c, e2, ev⟩
  by_cases hlt : i < p.1.length
  · obtain ⟨pv, hpv⟩ : ∃ pv, p.1[i]? = some pv := ⟨p.1[i], by simp [hlt]⟩
    rw [drop_at hpv] at e2
    obtain ⟨hg, o, S3, r1, ef, er, e3⟩ := compL_cons e2
    obtain ⟨go, yl⟩ := (src φ2 (D :: η) H S2 hx c.ext.w c.st hg).1 i hlt
    refine .inr ⟨go, fun H' => i + 1 ≤ p.1.length ∧ ∃ φ2 S2 acc r, CSt G φ1 η D H1 φ2 S2 acc H' ∧ compL (turn1 t own rc re ρ) p.2 (p.1.drop (i + 1)) S2 = .ok r Sf ∧ vs = acc ++ r, fun H' h' => ⟨_, by omega, rfl, h'⟩, fun x H' hy => ?_⟩
    obtain ⟨x2, hs2, pv', hpv', rx⟩ := yl x H' hy
    rw [hpv] at hpv'
    cases hpv'
    obtain ⟨ρ', hb, ht⟩ := turn1_ok ef
    have c' := c.step x2 hs2
    refine ⟨φ2, D :: η, wipeE ρ own, pv, ρ', ((hρD.mono c.ext).mono x2).wipe own, rx, hb, fun σ2 hρ2 hw => ⟨by rw [hw own hsl, wipe_wipe], ?_⟩⟩
    refine ⟨φ2, D :: η, ρ', S2, hs2, hρ2, ?_⟩
    rcases ht with ⟨h1, h2⟩ | ⟨S4, v, h1, h2, h3⟩
    · rw [h1]
      intro φ3 H3 b x3 hs3 hb'
      cases (show false = b from hb')
      rw [if_neg Bool.false_ne_true]
      refine ⟨hlt, φ3, S3, acc, r1, c'.step x3 hs3, er, ?_⟩
      rw [ev, e3, h2]
      rfl
    · rw [h1]
      intro φ3 H3 b x3 hs3 hb'
      cases (show true = b from hb')
      rw [if_pos rfl]
      refine ⟨φ3, D :: η, ρ', S4, hs3, hρ2.mono x3, ?_⟩
      rw [h2]
      intro φ4 H4 y x4 hs4 ry
      obtain ⟨us, a1, a2, a3⟩ := ((c'.step x3 hs3).step x4 hs4).app ry
      refine ⟨us, a1, ?_, hlt, φ4, S3, acc ++ [v], r1, a3, er, by rw [ev, e3, h3, List.append_assoc]⟩
      rw [a2, lim_eq]
      rw [ev, e3, h3, List.length_append, List.length_append] at hl
      simp at hl
      omega
  · have hi' : i = p.1.length := by omega
    rw [hi', List.drop_length] at e2
    obtain ⟨hg, e3, e4⟩ := compL_nil e2
    refine .inl ⟨by rw [hi']; exact (src φ2 (D :: η) H S2 hx c.ext.w c.st hg).2, c.fin fun φ' H' us x hs' rs' => ?_⟩
    have ea : vs = acc := by rw [ev, e3, List.append_nil]
    rw [← ea] at rs'
    rw [e4] at hs'
    exact hp2 φ' H' us x hs' rs'
theorem comp2_imp {E : XK} {rs rs2 : Pw.Env → PSt → R (List PV × Gd)} {rc : Pw.Env → PSt → R Bool} {re : Pw.Env → PSt → R PV} {t t2 : Tg} {own own2 : List Nat} (hsl : ∀ i ∈ t.slots, i ∈ own) (hsl2 : ∀ i ∈ t2.slots, i ∈ own2) {σ : L2.St} {H : Hp} {Q : VK}
    (h : TLv G E (fun ρ S => (rs ρ S).bind fun p S => (compL (turn2 t own rs2 t2 own2 rc re ρ) p.2 p.1 S).bind capL) σ H Q) : tLc2 (TIv G E rs) (TGv G t) tYes (TIv G EF rs2) (TGv G t2) (TTv G EF rc) (TEv G EF re) own own2 σ H Q := by
  obtain ⟨φ, η, ρ, S, hs, hρ, hp⟩ := h
  refine ⟨φ, η, ρ, S, hs, hρ, hp.bind (rel' := relI G) fun p S1 φ1 H1 J x1 hs1 src hp1 D hD => ?_⟩
  obtain ⟨vs, Sf, e, hl, hp2⟩ := cap_ok (compL_noexc turn2_ne _ _) hp1
  have hρ1 := hρ.mono x1
  have hx : HExt H1 η (D :: η) := .new hD
  have hρD : ERep G φ1 (D :: η) H1 ρ σ := ⟨hρ1.1, fun i p e => let ⟨v, e1, r⟩ := hρ1.2 i p e; ⟨v, e1, r.hmono hx⟩⟩
  refine ⟨fun i m H => m = p.1.length - i ∧ i ≤ p.1.length ∧ ∃ φ2 S2 acc r, CSt G φ1 η D H1 φ2 S2 acc H ∧ compL (turn2 t own rs2 t2 own2 rc re ρ) p.2 (p.1.drop i) S2 = .ok r Sf ∧ vs = acc ++ r, ⟨_, rfl, Nat.zero_le _, φ1, S1, [], vs, .start hs1 hD, e, rfl⟩, ?_⟩
  rintro i m H ⟨rfl, hi, φ2, S2, acc, r, c, e2, ev⟩
  by_cases hlt : i < p.1.length
  · obtain ⟨pv, hpv⟩ : ∃ pv, p.1[i]? = some pv := ⟨p.1[i], by simp [hlt]⟩
    rw [drop_at hpv] at e2
    obtain ⟨hg, o, S3, r1, ef, er, e3⟩ := compL_cons e2
    obtain ⟨go, yl⟩ := (src φ2 (D :: η) H S2 hx c.ext.w c.st hg).1 i hlt
    refine .inr ⟨go, fun H' => i + 1 ≤ p.1.length ∧ ∃ φ2 S2 acc r, CSt G φ1 η D H1 φ2 S2 acc H' ∧ compL (turn2 t own rs2 t2 own2 rc re ρ) p.2 (p.1.drop (i + 1)) S2 = .ok r Sf ∧ vs = acc ++ r, fun H' h' => ⟨_, by omega, rfl, h'⟩, fun x H' hy => ?_⟩
    obtain ⟨x2, hs2, pv', hpv', rx⟩ := yl x H' hy
    rw [hpv] at hpv'
    cases hpv'
    obtain ⟨ρ', pq, S4, hb, hrs, hin⟩ := turn2_ok ef
    have c' := c.step x2 hs2
    refine ⟨φ2, D :: η, wipeE ρ own, pv, ρ', ((hρD.mono c.ext).mono x2).wipe own, rx, hb, fun σ2 hρ2 hw => ⟨by rw [hw own hsl, wipe_wipe], ?_⟩⟩
    dsimp only [tYes]
    first | rw [if_pos rfl] | skip
    refine ⟨φ2, D :: η, ρ', S2, hs2, hρ2, ?_⟩
    rw [hrs]
    intro φ3 H3 J1 x3 hs3 src1
    have c3 := c'.step x3 hs3
    have hρ3 := hρ2.mono x3
    refine ⟨fun j k H => k = pq.1.length - j ∧ j ≤ pq.1.length ∧ ∃ φ5 S5 acc5 r5, CSt G φ1 η D H1 φ5 S5 acc5 H ∧ ExtW (D :: η) φ3 φ5 H3 H ∧ (∀ a o, H3 a = some o → NT o → ∃ o', H a = some o' ∧ NT o') ∧ compL (turn1 t2 own2 rc re ρ') pq.2 (pq.1.drop j) S5 = .ok r5 S3 ∧ acc ++ o = acc5 ++ r5, ⟨_, rfl, Nat.zero_le _, φ3, S4, acc, o, c3, (Ext.refl _ _).w, (Ext.refl φ3 H3).there, hin, rfl⟩, ?_⟩
    rintro j k H5 ⟨rfl, hj, φ5, S5, acc5, r5, c5, x5, th5, e5, ev5⟩
    by_cases hlj : j < pq.1.length
    · obtain ⟨qv, hqv⟩ : ∃ qv, pq.1[j]? = some qv := ⟨pq.1[j], by simp [hlj]⟩
      rw [drop_at hqv] at e5
      obtain ⟨hg5, o6, S6, r6, ef6, er6, e6⟩ := compL_cons e5
      obtain ⟨go6, yl6⟩ := (src1 φ5 (D :: η) H5 S5 (.refl _ _) x5 c5.st hg5).1 j hlj
      refine .inr ⟨go6, fun H' => j + 1 ≤ pq.1.length ∧ ∃ φ5 S5 acc5 r5, CSt G φ1 η D H1 φ5 S5 acc5 H' ∧ ExtW (D :: η) φ3 φ5 H3 H' ∧ (∀ a o, H3 a = some o → NT o → ∃ o', H' a = some o' ∧ NT o') ∧ compL (turn1 t2 own2 rc re ρ') pq.2 (pq.1.drop (j + 1)) S5 = .ok r5 S3 ∧ acc ++ o = acc5 ++ r5, fun H' h' => ⟨_, by omega, rfl, h'⟩, fun x H6 hy => ?_⟩
      obtain ⟨x6, hs6, qv', hqv', ry⟩ := yl6 x H6 hy
      rw [hqv] at hqv'
      cases hqv'
      obtain ⟨ρ6, hb6, ht⟩ := turn1_ok ef6
      have c6 := c5.step x6 hs6
      have x56 := x5.trans th5 x6
      have th6 : ∀ a o, H3 a = some o → NT o → ∃ o', H6 a = some o' ∧ NT o' := fun a o h t => let ⟨o', z, t'⟩ := th5 a o h t; x6.there a o' z t'
      refine ⟨φ5, D :: η, wipeE ρ' own2, qv, ρ6, (hρ3.wmono x56 (.refl _ _)).wipe own2, ry, hb6, fun σ3 hρ6 hw6 => ⟨by rw [hw6 own2 hsl2, wipe_wipe], ?_⟩⟩
      refine ⟨φ5, D :: η, ρ6, S5, hs6, hρ6, ?_⟩
      rcases ht with ⟨h1, h2⟩ | ⟨S7, v, h1, h2, h3⟩
      · rw [h1]
        intro φ7 H7 b x7 hs7 hb'
        cases (show false = b from hb')
        rw [if_neg Bool.false_ne_true]
        refine ⟨hlj, φ7, S6, acc5, r6, c6.step x7 hs7, x56.trans th6 x7, fun a o h t => (let ⟨o', z, t'⟩ := th6 a o h t; x7.there a o' z t'), er6, ?_⟩
        rw [ev5, e6, h2]
        rfl
      · rw [h1]
        intro φ7 H7 b x7 hs7 hb'
        cases (show true = b from hb')
        rw [if_pos rfl]
        refine ⟨φ7, D :: η, ρ6, S7, hs7, hρ6.mono x7, ?_⟩
        rw [h2]
        intro φ8 H8 y x8 hs8 rv
        have c8 := (c6.step x7 hs7).step x8 hs8
        obtain ⟨us, a1, a2, a3⟩ := c8.app rv
        have th7 : ∀ a o, H3 a = some o → NT o → ∃ o', H7 a = some o' ∧ NT o' := fun a o h t => let ⟨o', z, t'⟩ := th6 a o h t; x7.there a o' z t'
        have x58 := (x56.trans th6 x7).trans th7 x8
        have x59 : ExtW (D :: η) φ3 φ8 H3 (upd H8 D (.lst (us ++ [y]))) := ⟨x58.pre, fun a o h n n' t => by rw [upd_ne (fun z => n' (by rw [z]; exact List.mem_cons_self))]; exact x58.keep a o h n n' t⟩
        have th9 : ∀ a o, H3 a = some o → NT o → ∃ o', upd H8 D (.lst (us ++ [y])) a = some o' ∧ NT o' := fun a o h t => by
          by_cases z : a = D
          · rw [z]; exact ⟨_, upd_same, .lst⟩
          · rw [upd_ne z]
            obtain ⟨o', q, t'⟩ := th7 a o h t
            exact x8.there a o' q t'
        refine ⟨us, a1, ?_, hlj, φ8, S6, acc5 ++ [v], r6, a3, x59, th9, er6, by rw [ev5, e6, h3, List.append_assoc]⟩
        rw [a2, lim_eq]
        have z : vs = acc5 ++ ([v] ++ r6) ++ r1 := by rw [ev, e3, ← List.append_assoc, ev5, e6, h3]
        rw [z] at hl
        simp at hl
        omega
    · have hj' : j = pq.1.length := by omega
      rw [hj', List.drop_length] at e5
      obtain ⟨hg5, e6, e7⟩ := compL_nil e5
      refine .inl ⟨by rw [hj']; exact (src1 φ5 (D :: η) H5 S5 (.refl _ _) x5 c5.st hg5).2, hlt, φ5, S3, acc5, r1, by rw [← e7]; exact c5, er, ?_⟩
      rw [ev, e3, ← List.append_assoc, ev5, e6, List.append_nil]
  · have hi' : i = p.1.length := by omega
    rw [hi', List.drop_length] at e2
    obtain ⟨hg, e3, e4⟩ := compL_nil e2
    refine .inl ⟨by rw [hi']; exact (src φ2 (D :: η) H S2 hx c.ext.w c.st hg).2, c.fin fun φ' H' us x hs' rs' => ?_⟩
    have ea : vs = acc := by rw [ev, e3, List.append_nil]
    rw [← ea] at rs'
    rw [e4] at hs'
    exact hp2 φ' H' us x hs' rs'
end
end Pw
/-! Pw16: comprehensions as nodes. -/
namespace Pw
open PySem PySem.Spec PyProof.Rows L2
theorem ownN_snd (N : List PySem.Str) (own : List Nat) : (ownN N own).map (·.2) = own := by
  unfold ownN
  rw [List.map_map]
  exact List.map_id own
theorem mR_ok {W : Row} {N : List PySem.Str} {sc : Scope} {s : PXr} {e : Expr} (h : mR W N sc s e = true) : okE e = true := by
  cases s with
  | val a =>
    unfold mR at h
    simp only [Bool.and_eq_true] at h
    exact h.1
  | _ =>
    unfold mR at h
    split at h
    · rfl
    · cases h
section
variable {G : Gr} {W : Row} {d : Nat} {N : List PySem.Str} {sc : Scope} {E : XK} {X : Cx}
theorem Cz.blk (c : Cz G W d N sc E X) {scope : Scope} (hk : scope.kind = .function) (s : Shared) (H : Hp) (C : Addr) (cl : List (PySem.Str × Addr)) (fp : List Addr) : Cz G W d N (relS scope sc) EF (X.blk s H scope (compEnvC scope cl C X.env) fp) where
  hP := c.hP
  hw := c.hw
  hK := c.hK
  hmg := c.hmg
  hb := c.hb
  hN := c.hN
  nd := c.nd
  hsc := by show relS scope X.env.scope = _; rw [c.hsc]
  kind := hk
  calm := c.calm
  room := c.room
  pass := fun _ _ _ _ _ _ _ h => by
    obtain ⟨_, _, _, _, _, _, _, _, _, _, _, _, h⟩ := h
    exact h.elim
  tab := c.tab
  cod := c.cod
theorem blk_tgt (c : Cz G W d N sc E X) {scope : Scope} (s : Shared) (H : Hp) (C : Addr) (cl : List (PySem.Str × Addr)) (fp : List Addr) {t : Tg} {tg : Expr} (h : mT N scope t tg = true) : PG (X.blk s H scope (compEnvC scope cl C X.env) fp) tg (TGv G t) := by
  refine tgt (X := X.blk s H scope (compEnvC scope cl C X.env) fp) (sc := scope) c.hN c.nd c.calm (fun x hx => ?_) t tg h
  have e : (compEnvC scope cl C X.env).scope = relS scope X.env.scope := rfl
  unfold locB at hx
  split at hx
  · rename_i q
    have z := lookup_relS_keep (sc := X.env.scope) (k := .local) (by decide) q
    exact ⟨.inl z, .inr z⟩
  · rename_i q
    have z := lookup_relS_keep (sc := X.env.scope) (k := .cell) (by decide) q
    exact ⟨.inr z, .inl (by show (scope.names.lookup x == some .cell) = true; rw [q]; rfl)⟩
  · cases hx
theorem pts_of {ifs : List Expr} {rc : Pw.Env → PSt → R Bool} {E : XK} (h : (ifs = [] ∧ ∀ ρ S, rc ρ S = .ok true S) ∨ (∃ y, ifs = [y] ∧ PT X y (TTv G E rc))) : PTs X ifs (TTv G E rc) := by
  rcases h with ⟨e, h⟩ | ⟨y, e, h⟩
  · subst e
    refine ⟨fun pins s σ H Q I q => pts_nil.run pins s σ H Q I ?_⟩
    obtain ⟨φ, η, ρ, S, hs, hρ, hp⟩ := q
    rw [h] at hp
    exact hp φ H true (.refl _ _) hs rfl
  · subst e
    exact pts_one h
theorem slots_of {t : Tg} {own : List Nat} (h : (t.slots.all fun i => own.contains i) = true) : ∀ i ∈ t.slots, i ∈ own := fun i hi => by
  have := List.all_eq_true.mp h i hi
  simpa using this
theorem l_comp (c : Cz G W d N sc E X) {elt tg it : Expr} {ifs : List Expr} {scope : Scope} {pos : Pos} {own : List Nat} {t : Tg} {rs : Pw.Env → PSt → R (List PV × Gd)} {rc : Pw.Env → PSt → R Bool} {re : Pw.Env → PSt → R PV} (hb : blkC N sc scope (ownN N own) = true) (hsl : (t.slots.all fun i => own.contains i) = true)
    (ho : okE it = true) (hi : PI X tg it (TIv G E rs)) (ht : mT N scope t tg = true) (hT : ∀ Xb, Cz G W d N (relS scope sc) EF Xb → PTs Xb ifs (TTv G EF rc)) (hE : ∀ Xb, Cz G W d N (relS scope sc) EF Xb → PE Xb elt (TEv G EF re)) :
    PE X (.ListComp elt [⟨tg, it, ifs, 0⟩] scope pos) (TLv G E fun ρ S => (rs ρ S).bind fun p S => (compL (turn1 t own rc re ρ) p.2 p.1 S).bind capL) := by
  have B : BlkOk X.N X.env.scope scope (ownN N own) := by rw [c.hN, c.hsc]; exact blkOk_by hb
  have L := pe_lc (pos := pos) c.calm (by rw [c.hN]; exact c.nd) hi B (fun s H C cl fp => blk_tgt c s H C cl fp ht) (fun s H C cl fp => hT _ (c.blk B.kind s H C cl fp)) (fun s H C cl fp => hE _ (c.blk B.kind s H C cl fp)) (okE_set ho)
  rw [ownN_snd] at L
  exact imp_PE L fun σ H Q h => comp_imp (slots_of hsl) h
theorem l_comp2 (c : Cz G W d N sc E X) {elt tg it tg2 it2 : Expr} {ifs : List Expr} {scope : Scope} {pos : Pos} {own own2 : List Nat} {t t2 : Tg} {rs rs2 : Pw.Env → PSt → R (List PV × Gd)} {rc : Pw.Env → PSt → R Bool} {re : Pw.Env → PSt → R PV} (hb : blkC N sc scope (ownN N own) = true) (hsl : (t.slots.all fun i => own.contains i) = true) (hsl2 : (t2.slots.all fun i => own2.contains i) = true) (h2 : (own2.all fun i => own.contains i) = true)
    (ho : okE it = true) (ho2 : okE it2 = true) (hi : PI X tg it (TIv G E rs)) (ht : mT N scope t tg = true) (ht2 : mT N scope t2 tg2 = true) (hi2 : ∀ Xb, Cz G W d N (relS scope sc) EF Xb → PI Xb tg2 it2 (TIv G EF rs2)) (hT : ∀ Xb, Cz G W d N (relS scope sc) EF Xb → PTs Xb ifs (TTv G EF rc)) (hE : ∀ Xb, Cz G W d N (relS scope sc) EF Xb → PE Xb elt (TEv G EF re)) :
    PE X (.ListComp elt [⟨tg, it, [], 0⟩, ⟨tg2, it2, ifs, 0⟩] scope pos) (TLv G E fun ρ S => (rs ρ S).bind fun p S => (compL (turn2 t own rs2 t2 own2 rc re ρ) p.2 p.1 S).bind capL) := by
  have B : BlkOk X.N X.env.scope scope (ownN N own) := by rw [c.hN, c.hsc]; exact blkOk_by hb
  have L := pe_lc2 (pos := pos) (vs1 := own2) c.calm (by rw [c.hN]; exact c.nd) hi B (by rw [ownN_snd]; intro i hi; have := List.all_eq_true.mp h2 i hi; simpa using this) (fun s H C cl fp => blk_tgt c s H C cl fp ht) (fun s H C cl fp => pts_nil) (fun s H C cl fp => hi2 _ (c.blk B.kind s H C cl fp)) (fun s H C cl fp => blk_tgt c s H C cl fp ht2) (fun s H C cl fp => hT _ (c.blk B.kind s H C cl fp)) (fun s H C cl fp => hE _ (c.blk B.kind s H C cl fp)) (okE_set ho) (fun env x => okE_set ho2 x)
  rw [ownN_snd] at L
  exact imp_PE L fun σ H Q h => comp2_imp (slots_of hsl) (slots_of hsl2) h
end
end Pw
set_option maxHeartbeats 8000000
/-! Pw17: every expression that the checker takes. -/
namespace Pw
open PySem PySem.Spec PyProof.Rows L2
section
variable {G : Gr} {d : Nat} {N : List PySem.Str}
/-- `_law_error(lambda: b)` -/
def ErrOk (G : Gr) (d : Nat) : Prop := ∀ (W : Row) (N : List PySem.Str) (sc : Scope) (E : XK) (X : Cx) (ls : Scope) (b : Expr) (x : PySem.Str) (p q p2 : Pos) (rb : Pw.Env → PSt → R PV), Cz G W d N sc E X → W.lam = false → x = "_law_error" → glB sc x = true → LamX.lamSB sc ls = true →
  (∀ E' X', Cz G W.in d N ls E' X' → PE X' b (TEv G E' rb)) → PE X (.Call (.Name x p) [.Lambda ⟨[], [], none, [], [], none, []⟩ b ls q] [] p2) (TEv G E fun ρ S => match rb ρ S with
    | .ok _ S => .ok (.str Str.empty) S
    | .exc c _ S => .ok (.str c.told) S
    | .err => .err)
theorem pe_err {X : Cx} {e : Expr} {E : XK} : PE X e (TEv G E fun _ _ => .err) := ⟨fun pins s σ H Q I h => by
  obtain ⟨φ, η, ρ, S, hs, hρ, hp⟩ := h
  exact (hp : False).elim⟩
theorem pt_err {X : Cx} {e : Expr} {E : XK} : PT X e (TTv G E fun _ _ => .err) := ⟨fun pins s σ H Q I h => by
  obtain ⟨φ, η, ρ, S, hs, hρ, hp⟩ := h
  exact (hp : False).elim⟩
theorem pw_err {X : Cx} {e : Expr} {E : XK} : PW X e (TTv G E fun _ _ => .err) := ⟨fun wh pins s σ H Q I h => by
  obtain ⟨φ, η, ρ, S, hs, hρ, hp⟩ := h
  exact (hp : False).elim⟩
theorem mEs_len {W : Row} {sc : Scope} : ∀ (es : PXs) (xs : List Expr), mEs W N sc es xs = true → xs.length = es.len
  | .nil, xs, h => by
    unfold mEs at h
    cases xs with
    | nil => rfl
    | cons _ _ => cases h
  | .cons a r, xs, h => by
    unfold mEs at h
    cases xs with
    | nil => cases h
    | cons e t =>
      simp only [Bool.and_eq_true] at h
      unfold PXs.len
      rw [List.length_cons, mEs_len r t h.2]
theorem mEs_ok {W : Row} {sc : Scope} : ∀ (es : PXs) (xs : List Expr), mEs W N sc es xs = true → ∀ e ∈ xs, okE e = true
  | .nil, xs, h => by
    unfold mEs at h
    cases xs with
    | nil => exact fun e he => by cases he
    | cons _ _ => cases h
  | .cons a r, xs, h => by
    unfold mEs at h
    cases xs with
    | nil => cases h
    | cons e t =>
      simp only [Bool.and_eq_true] at h
      intro e' he
      rcases List.mem_cons.mp he with z | z
      · rw [z]; exact h.1.1
      · exact mEs_ok r t h.2 e' z
theorem evs_len {C : Calls} : ∀ (es : PXs) (ρ : Pw.Env) (S : PSt) (vs : List PV) (S' : PSt), evs C es ρ S = .ok vs S' → vs.length = es.len
  | .nil, ρ, S, vs, S', h => by
    unfold evs at h
    cases h
    rfl
  | .cons a r, ρ, S, vs, S', h => by
    unfold evs at h
    cases h1 : ev C a ρ S with
    | ok v S1 =>
      rw [h1] at h
      cases h2 : evs C r ρ S1 with
      | ok us S2 =>
        simp only [R.bind, h2] at h
        cases h
        unfold PXs.len
        rw [List.length_cons, evs_len r ρ S1 us _ h2]
      | exc c vs' S' => simp only [R.bind, h2] at h; cases h
      | err => simp only [R.bind, h2] at h; cases h
    | exc c vs' S' => rw [h1] at h; cases h
    | err => rw [h1] at h; cases h
theorem n_one {X : Cx} {e : Expr} {op : BoolOp} {p : Pos} {t : TE} (h : PE X e t) : PE X (.BoolOp op [e] p) t := pe_one h
theorem h1t {sc : Scope} {t : Tg} {s : PXr} {tg : Expr} (h : srcB t s = true) (ht : mT N sc t tg = true) : forTp s = true → ∃ es k p, tg = .Tuple es k p := fun hf => by
  unfold srcB at h
  rw [hf] at h
  cases t with
  | nm i => cases h
  | tp ts =>
    unfold mT at ht
    split at ht
    · exact ⟨_, _, _, rfl⟩
    · cases ht
mutual
theorem sE (he : ErrOk G d) {W : Row} {sc : Scope} {E : XK} {X : Cx} (c : Cz G W d N sc E X) : ∀ (e : PX) (x : Expr), mE W N sc e x = true → PE X x (TEv G E (ev (run G.T d) e))
  | .var i, x, h => by
    unfold mE at h
    split at h
    · simp only [Bool.and_eq_true, decide_eq_true_eq] at h
      exact n_var c.hN c.hsc h.1.1 h.1.2 h.2
    · cases h
  | .cst v, x, h => by
    unfold mE at h
    split at h
    · split at h
      · exact n_cst pe_non fun φ η H => rfl
      · simp only [decide_eq_true_eq] at h
        subst h
        exact n_cst pe_bl fun φ η H => rfl
      · simp only [decide_eq_true_eq] at h
        subst h
        exact n_cst pe_int fun φ η H => rfl
      · simp only [Bool.and_eq_true, decide_eq_true_eq] at h
        obtain ⟨⟨h1, h2⟩, _⟩ := h
        subst h1
        exact n_cst pe_str fun φ η H => ⟨rfl, h2⟩
      · cases h
    · cases h
  | .fn f, x, h => by
    unfold mE at h
    split at h
    · simp only [Bool.and_eq_true, decide_eq_true_eq] at h
      exact n_fn c h.1.1.1 h.1.1.2 h.1.2 h.2
    · cases h
  | .xcls k, x, h => by
    unfold mE at h
    split at h
    · simp only [Bool.and_eq_true, decide_eq_true_eq] at h
      obtain ⟨a, e1, _⟩ := c.tab.xc k h.1.2
      exact n_cst (pe_glob (gl_of c.hsc h.1.1.2) (v := .ref a) (u := .ref a) (by rw [c.hmg, h.1.1.1]; exact e1) rfl (nm_parts h.2).1) fun φ η H => ⟨a, e1, rfl⟩
    · cases h
  | .mw, x, h => by
    unfold mE at h
    split at h
    · simp only [Bool.and_eq_true, decide_eq_true_eq] at h
      exact n_mw c h.1.1 h.1.2 h.2
    · cases h
  | .tup es, x, h => by
    unfold mE at h
    split at h
    · simp only [Bool.and_eq_true, decide_eq_true_eq] at h
      have l := mEs_len es _ h.1
      exact n_tup (sEs he c es _ h.1) (by rw [l]; exact h.2) fun ρ S vs S' q => by rw [l]; exact evs_len es ρ S vs S' q
    · cases h
  | .fl l, x, h => by
    unfold mE at h
    exact n_fl (sL he c l x h)
  | .nl l, x, h => by
    unfold mE at h
    exact n_nl (sL he c l x h)
  | .bin op a b, x, h => by
    unfold mE at h
    split at h
    · simp only [Bool.and_eq_true] at h
      exact n_bin h.1.1 (sE he c a _ h.1.2) (sE he c b _ h.2)
    · cases h
  | .neg a, x, h => by
    unfold mE at h
    split at h
    · exact n_neg (sE he c a _ h)
    · cases h
  | .not a, x, h => by
    unfold mE at h
    split at h
    · exact n_not (sE he c a _ h)
    · cases h
  | .cmp op a b, x, h => by
    unfold mE at h
    split at h
    · simp only [Bool.and_eq_true, Bool.not_eq_true'] at h
      exact n_cmp h.1.1.1 h.1.1.2 c.hu (sE he c a _ h.1.2) (sE he c b _ h.2)
    · cases h
  | .chain o1 o2 a b k, x, h => by
    unfold mE at h
    split at h
    · simp only [Bool.and_eq_true, Bool.not_eq_true'] at h
      obtain ⟨⟨⟨⟨⟨h1, h2⟩, h3⟩, h4⟩, h5⟩, h6⟩ := h
      exact n_chain h1 h2 h3 c.hu (sE he c a _ h4) (sE he c b _ h5) (sE he c k _ h6)
    · cases h
  | .and a b, x, h => by
    unfold mE at h
    split at h
    · rename_i y z r p
      simp only [Bool.and_eq_true] at h
      obtain ⟨h1, h2⟩ := h
      refine n_and (sE he c a _ h1) ?_
      split at h2
      · exact n_one (sE he c b _ h2)
      · exact sE he c b _ h2
    · cases h
  | .or a b, x, h => by
    unfold mE at h
    split at h
    · rename_i y z r p
      simp only [Bool.and_eq_true] at h
      obtain ⟨h1, h2⟩ := h
      refine n_or (sE he c a _ h1) ?_
      split at h2
      · exact n_one (sE he c b _ h2)
      · exact sE he c b _ h2
    · cases h
  | .ife k a b, x, h => by
    unfold mE at h
    split at h
    · simp only [Bool.and_eq_true] at h
      exact n_ife (sT he c k _ h.1.1) (sE he c a _ h.1.2) (sE he c b _ h.2)
    · cases h
  | .idx a i, x, h => by
    unfold mE at h
    split at h
    · simp only [Bool.and_eq_true] at h
      exact n_idx c.hK h.1.1 (sE he c a _ h.1.2) (sE he c i _ h.2)
    · cases h
  | .sl a lo hi, x, h => by
    unfold mE at h
    split at h
    · simp only [Bool.and_eq_true] at h
      exact n_sl (sE he c a _ h.1.1) (sE he c lo _ h.1.2) (sE he c hi _ h.2)
    · cases h
  | .slf a lo, x, h => by
    unfold mE at h
    split at h
    · simp only [Bool.and_eq_true] at h
      exact n_slf (sE he c a _ h.1) (sE he c lo _ h.2)
    · cases h
  | .slt a hi, x, h => by
    unfold mE at h
    split at h
    · simp only [Bool.and_eq_true] at h
      exact n_slt (sE he c a _ h.1) (sE he c hi _ h.2)
    · cases h
  | .rev a, x, h => by
    unfold mE at h
    split at h
    · exact n_rev (sE he c a _ h)
    · cases h
  | .call f es, x, h => by
    unfold mE at h
    split at h
    · rename_i y p r q
      simp only [Bool.and_eq_true, decide_eq_true_eq] at h
      obtain ⟨⟨⟨⟨h1, h2⟩, h3⟩, h4⟩, h5⟩ := h
      cases r with
      | nil =>
        cases es with
        | nil => exact n_call0 c h1 h2 h3 h4
        | cons a t => unfold mEs at h5; cases h5
      | cons e t =>
        cases es with
        | nil => unfold mEs at h5; cases h5
        | cons a t' =>
          have h6 := h5
          unfold mEs at h6
          simp only [Bool.and_eq_true] at h6
          exact n_call (b := a) c h1 h2 h3 h4 h6.1.1 h6.2 (sEs he c (.cons a t') _ h5)
    · cases h
  | .callv g es, x, h => by
    unfold mE at h
    split at h
    · rename_i y p r q
      simp only [Bool.and_eq_true] at h
      obtain ⟨⟨⟨h1, h2⟩, h3⟩, h5⟩ := h
      cases r with
      | nil => cases h3
      | cons e t =>
        cases es with
        | nil => unfold mEs at h5; cases h5
        | cons a t' =>
          have h6 := h5
          unfold mEs at h6
          simp only [Bool.and_eq_true] at h6
          exact n_callv c h6.1.1 h6.2 (sE he c g _ h1) (sEs he c (.cons a t') _ h5)
    · cases h
  | .blt b es, x, h => by
    unfold mE at h
    split at h
    · simp only [Bool.and_eq_true, decide_eq_true_eq] at h
      exact n_blt c h.1.1 h.1.2 h.2 (sEs he c es _ h.2)
    · cases h
  | .isi a t, x, h => by
    unfold mE at h
    split at h
    · simp only [Bool.and_eq_true] at h
      exact n_isi c h.1.1.1 h.1.1.2 h.1.2 (sE he c a _ h.2)
    · cases h
  | .isx a k, x, h => by unfold mE at h; cases h
  | .mth m a es, x, h => by
    unfold mE at h
    split at h
    · rename_i y n ap r p
      simp only [Bool.and_eq_true, decide_eq_true_eq] at h
      obtain ⟨⟨⟨⟨⟨⟨⟨h1, h2⟩, h3⟩, h4⟩, h5⟩, h6⟩, h7⟩, h8⟩ := h
      have hl : r.length = 1 := by rcases h6 with z | z <;> (rw [h5, z]; rfl)
      obtain ⟨e, rfl⟩ := len1E hl
      cases es with
      | nil => unfold mEs at h8; cases h8
      | cons b t =>
        cases t with
        | cons _ _ => unfold mEs at h8; simp only [Bool.and_eq_true] at h8; have z := h8.2; unfold mEs at z; cases z
        | nil =>
          unfold mEs at h8
          simp only [Bool.and_eq_true] at h8
          exact n_mth h1 h2 h3 h4 h8.1.1 h6 (sE he c a _ h7) (sE he c b _ h8.1.2)
    · cases h
  | .sset a, x, h => by unfold mE at h; cases h
  | .err a, x, h => by
    unfold mE at h
    split at h
    · rename_i y p pr b ls q p2
      simp only [Bool.and_eq_true, decide_eq_true_eq, Bool.not_eq_true'] at h
      obtain ⟨⟨⟨⟨⟨⟨h1, h2⟩, h3⟩, h4⟩, h5⟩, h6⟩, h7⟩ := h
      split at h5
      · exact he W N sc E X ls b y p q p2 _ c h6 h1 h2 h4 fun E' X' c' => sE he c' a _ h7
      · cases h5
    · cases h
theorem sT (he : ErrOk G d) {W : Row} {sc : Scope} {E : XK} {X : Cx} (c : Cz G W d N sc E X) : ∀ (e : PX) (x : Expr), mE W N sc e x = true → PT X x (TTv G E (evT (run G.T d) e))
  | .not a, x, h => by
    unfold mE at h
    split at h
    · exact t_not (sT he c a _ h)
    · cases h
  | .and a b, x, h => by
    unfold mE at h
    split at h
    · rename_i y z r p
      simp only [Bool.and_eq_true] at h
      obtain ⟨h1, h2⟩ := h
      refine (w_and (sT he c a _ h1) ?_).pt
      split at h2
      · exact pw_and1 (sT he c b _ h2)
      · exact sW he c b _ _ _ h2
    · cases h
  | .or a b, x, h => by
    unfold mE at h
    split at h
    · rename_i y z r p
      simp only [Bool.and_eq_true] at h
      obtain ⟨h1, h2⟩ := h
      refine (w_or (sT he c a _ h1) ?_).pt
      split at h2
      · exact pw_or1 (sT he c b _ h2)
      · exact sW he c b _ _ _ h2
    · cases h
  | .cst v, x, h => by
    have q := sE he c (.cst v) x h
    unfold mE at h
    split at h
    · exact t_val q fun wh => rfl
    · cases h
  | .cmp op a b, x, h => by
    unfold mE at h
    split at h
    · simp only [Bool.and_eq_true, Bool.not_eq_true'] at h
      exact t_cmp h.1.1.1 h.1.1.2 c.hu (sE he c a _ h.1.2) (sE he c b _ h.2)
    · cases h
  | .chain o1 o2 a b k, x, h => by
    unfold mE at h
    split at h
    · simp only [Bool.and_eq_true, Bool.not_eq_true'] at h
      obtain ⟨⟨⟨⟨⟨h1, h2⟩, h3⟩, h4⟩, h5⟩, h6⟩ := h
      exact t_chain h1 h2 h3 c.hu (sE he c a _ h4) (sE he c b _ h5) (sE he c k _ h6)
    · cases h
  | .var i, x, h => by
    have q := sE he c (.var i) x h
    unfold mE at h
    split at h
    · exact t_val q fun wh => rfl
    · cases h
  | .call f es, x, h => by
    have q := sE he c (.call f es) x h
    unfold mE at h
    split at h
    · exact t_val q fun wh => rfl
    · cases h
  | .callv f es, x, h => by
    have q := sE he c (.callv f es) x h
    unfold mE at h
    split at h
    · exact t_val q fun wh => rfl
    · cases h
  | .idx a i, x, h => by
    have q := sE he c (.idx a i) x h
    unfold mE at h
    split at h
    · exact t_val q fun wh => rfl
    · cases h
  | .blt b es, x, h => by
    have q := sE he c (.blt b es) x h
    unfold mE at h
    split at h
    · exact t_val q fun wh => rfl
    · cases h
  | .isi a t, x, h => by
    have q := sE he c (.isi a t) x h
    unfold mE at h
    split at h
    · refine imp_PT (t_val q fun wh => rfl) fun σ H Q z => ?_
      obtain ⟨φ, η, ρ, S, hs, hρ, hp⟩ := z
      refine ⟨φ, η, ρ, S, hs, hρ, ?_⟩
      have hp : Post G relB E φ η H Q ((ev (run G.T d) a ρ S).bind fun x S => R.ofO S (tyV S x t)) := hp
      show Post G relB E φ η H Q (((ev (run G.T d) a ρ S).bind fun x S => R.ofO S ((tyV S x t).map .bl)).bind fun x S => R.ofO S (truthy S x))
      rw [R.bind_assoc]
      have e : (fun v S' => (R.ofO S' ((tyV S' v t).map PV.bl)).bind fun x S => R.ofO S (truthy S x)) = fun v S' => R.ofO S' (tyV S' v t) := funext fun v => funext fun S' => by
        cases tyV S' v t with
        | none => rfl
        | some k => rfl
      rw [e]
      exact hp
    · cases h
  | .fn _, x, h => pt_err
  | .xcls _, x, h => pt_err
  | .mw, x, h => pt_err
  | .tup _, x, h => pt_err
  | .fl _, x, h => pt_err
  | .nl _, x, h => pt_err
  | .bin _ _ _, x, h => pt_err
  | .neg _, x, h => pt_err
  | .ife _ _ _, x, h => pt_err
  | .sl _ _ _, x, h => pt_err
  | .slf _ _, x, h => pt_err
  | .slt _ _, x, h => pt_err
  | .rev _, x, h => pt_err
  | .isx _ _, x, h => pt_err
  | .mth _ _ _, x, h => pt_err
  | .sset _, x, h => pt_err
  | .err _, x, h => pt_err
theorem sW (he : ErrOk G d) {W : Row} {sc : Scope} {E : XK} {X : Cx} (c : Cz G W d N sc E X) : ∀ (e : PX) (op : BoolOp) (es : List Expr) (p : Pos), mE W N sc e (.BoolOp op es p) = true → PW X (.BoolOp op es p) (TTv G E (evT (run G.T d) e))
  | .and a b, op, es, p, h => by
    unfold mE at h
    split at h
    · rename_i y z r p q
      cases q
      simp only [Bool.and_eq_true] at h
      obtain ⟨h1, h2⟩ := h
      refine w_and (sT he c a _ h1) ?_
      split at h2
      · exact pw_and1 (sT he c b _ h2)
      · exact sW he c b _ _ _ h2
    · cases h
  | .or a b, op, es, p, h => by
    unfold mE at h
    split at h
    · rename_i y z r p q
      cases q
      simp only [Bool.and_eq_true] at h
      obtain ⟨h1, h2⟩ := h
      refine w_or (sT he c a _ h1) ?_
      split at h2
      · exact pw_or1 (sT he c b _ h2)
      · exact sW he c b _ _ _ h2
    · cases h
  | .not _, _, _, _, h => by unfold mE at h; cases h
  | .cst _, _, _, _, h => by unfold mE at h; cases h
  | .cmp _ _ _, _, _, _, h => by unfold mE at h; cases h
  | .chain _ _ _ _ _, _, _, _, h => by unfold mE at h; cases h
  | .var _, _, _, _, h => by unfold mE at h; cases h
  | .call _ _, _, _, _, h => by unfold mE at h; cases h
  | .callv _ _, _, _, _, h => by unfold mE at h; cases h
  | .idx _ _, _, _, _, h => by unfold mE at h; cases h
  | .blt _ _, _, _, _, h => by unfold mE at h; cases h
  | .isi _ _, _, _, _, h => by unfold mE at h; cases h
  | .fn _, _, _, _, h => pw_err
  | .xcls _, _, _, _, h => pw_err
  | .mw, _, _, _, h => pw_err
  | .tup _, _, _, _, h => pw_err
  | .fl _, _, _, _, h => pw_err
  | .nl _, _, _, _, h => pw_err
  | .bin _ _ _, _, _, _, h => pw_err
  | .neg _, _, _, _, h => pw_err
  | .ife _ _ _, _, _, _, h => pw_err
  | .sl _ _ _, _, _, _, h => pw_err
  | .slf _ _, _, _, _, h => pw_err
  | .slt _ _, _, _, _, h => pw_err
  | .rev _, _, _, _, h => pw_err
  | .isx _ _, _, _, _, h => pw_err
  | .mth _ _ _, _, _, _, h => pw_err
  | .sset _, _, _, _, h => pw_err
  | .err _, _, _, _, h => pw_err
theorem sL (he : ErrOk G d) {W : Row} {sc : Scope} {E : XK} {X : Cx} (c : Cz G W d N sc E X) : ∀ (l : PXl) (x : Expr), mL W N sc l x = true → PE X x (TLv G E (evL (run G.T d) l))
  | .disp es, x, h => by
    unfold mL at h
    split at h
    · simp only [Bool.and_eq_true, decide_eq_true_eq] at h
      have l := mEs_len es _ h.1
      exact l_disp (sEs he c es _ h.1) (by rw [l]; exact h.2) fun ρ S vs S' q => by rw [l]; exact evs_len es ρ S vs S' q
    · cases h
  | .lr1 a, x, h => by
    unfold mL at h
    split at h
    · simp only [Bool.and_eq_true] at h
      exact l_lr1 c h.1.1.1 h.1.1.2 h.1.2 (sE he c a _ h.2)
    · cases h
  | .lr2 a b, x, h => by
    unfold mL at h
    split at h
    · simp only [Bool.and_eq_true] at h
      obtain ⟨⟨⟨⟨⟨h1, h2⟩, h3⟩, h4⟩, h5⟩, h6⟩ := h
      exact l_lr2 c h1 h2 h3 h4 (sE he c a _ h5) (sE he c b _ h6)
    · cases h
  | .ofl a, x, h => by
    unfold mL at h
    split at h
    · simp only [Bool.and_eq_true] at h
      exact l_ofl c h.1.1 h.1.2 (sE he c a _ h.2)
    · cases h
  | .cat a b, x, h => by
    unfold mL at h
    split at h
    · simp only [Bool.and_eq_true] at h
      exact l_cat (sE he c a _ h.1) (sE he c b _ h.2)
    · cases h
  | .rep a b, x, h => by
    unfold mL at h
    split at h
    · simp only [Bool.and_eq_true] at h
      exact l_rep (sE he c a _ h.1) (sE he c b _ h.2)
    · cases h
  | .comp own t s k e, x, h => by
    unfold mL at h
    split at h
    · rename_i elt tg it ifs scope pos
      simp only [Bool.and_eq_true] at h
      obtain ⟨⟨⟨⟨⟨⟨h1, h2⟩, h3⟩, h4⟩, h5⟩, h6⟩, h7⟩ := h
      refine l_comp c h4 h2 (mR_ok h3) (sR he c s _ tg h3 (h1t h1 h5)) h5 (fun Xb cb => pts_of ?_) fun Xb cb => sE he cb e _ h7
      split at h6
      · split at h6
        · exact .inl ⟨rfl, fun ρ S => rfl⟩
        · cases h6
      · simp only [Bool.and_eq_true] at h6
        exact .inr ⟨_, rfl, sT he cb k _ h6.2⟩
      · cases h6
    · cases h
  | .comp2 own t s own2 t2 s2 k e, x, h => by
    unfold mL at h
    split at h
    · rename_i elt tg it tg2 it2 ifs scope pos
      simp only [Bool.and_eq_true] at h
      obtain ⟨⟨⟨⟨⟨⟨⟨⟨⟨⟨⟨h1, h2⟩, h3⟩, h4⟩, h5⟩, h6⟩, h7⟩, h8⟩, h9⟩, h10⟩, h11⟩, h12⟩ := h
      refine l_comp2 c h6 h3 h4 h8 (mR_ok h5) (mR_ok h9) (sR he c s _ tg h5 (h1t h1 h7)) h7 h10 (fun Xb cb => sR he cb s2 _ tg2 h9 (h1t h2 h10)) (fun Xb cb => pts_of ?_) fun Xb cb => sE he cb e _ h12
      split at h11
      · split at h11
        · exact .inl ⟨rfl, fun ρ S => rfl⟩
        · cases h11
      · simp only [Bool.and_eq_true] at h11
        exact .inr ⟨_, rfl, sT he cb k _ h11.2⟩
      · cases h11
    · cases h
theorem sEs (he : ErrOk G d) {W : Row} {sc : Scope} {E : XK} {X : Cx} (c : Cz G W d N sc E X) : ∀ (es : PXs) (xs : List Expr), mEs W N sc es xs = true → PA X xs (TAv G E (evs (run G.T d) es))
  | .nil, xs, h => by
    unfold mEs at h
    cases xs with
    | nil => exact a_nil
    | cons _ _ => cases h
  | .cons a r, xs, h => by
    unfold mEs at h
    cases xs with
    | nil => cases h
    | cons e t =>
      simp only [Bool.and_eq_true] at h
      exact a_cons h.1.1 (sE he c a _ h.1.2) (sEs he c r _ h.2)
theorem sR (he : ErrOk G d) {W : Row} {sc : Scope} {E : XK} {X : Cx} (c : Cz G W d N sc E X) : ∀ (s : PXr) (x tg : Expr), mR W N sc s x = true → (forTp s = true → ∃ es k p, tg = .Tuple es k p) → PI X tg x (TIv G E (evR (run G.T d) s))
  | .val a, x, tg, h, ht => by
    unfold mR at h
    simp only [Bool.and_eq_true] at h
    exact r_val (sE he c a _ h.2)
  | .rng a, x, tg, h, ht => by
    unfold mR at h
    split at h
    · simp only [Bool.and_eq_true] at h
      exact r_rng c h.1.1 h.1.2 (sE he c a _ h.2)
    · cases h
  | .rng2 a b, x, tg, h, ht => by
    unfold mR at h
    split at h
    · simp only [Bool.and_eq_true] at h
      obtain ⟨⟨⟨⟨h1, h2⟩, h3⟩, h4⟩, h5⟩ := h
      exact r_rng2 c h1 h2 h3 (sE he c a _ h4) (sE he c b _ h5)
    · cases h
  | .rng3 a b k, x, tg, h, ht => by
    unfold mR at h
    split at h
    · simp only [Bool.and_eq_true] at h
      obtain ⟨⟨⟨⟨⟨⟨h1, h2⟩, h3⟩, h4⟩, h5⟩, h6⟩, h7⟩ := h
      exact r_rng3 c h1 h2 h3 h4 (sE he c a _ h5) (sE he c b _ h6) (sE he c k _ h7)
    · cases h
  | .zip a b, x, tg, h, ht => by
    obtain ⟨es, k, p, rfl⟩ := ht rfl
    unfold mR at h
    split at h
    · simp only [Bool.and_eq_true] at h
      obtain ⟨⟨⟨⟨h1, h2⟩, h3⟩, h4⟩, h5⟩ := h
      exact r_zip c h1 h2 h3 (sE he c a _ h4) (sE he c b _ h5)
    · cases h
  | .enum a, x, tg, h, ht => by
    obtain ⟨es, k, p, rfl⟩ := ht rfl
    unfold mR at h
    split at h
    · simp only [Bool.and_eq_true] at h
      exact r_enum c h.1.1 h.1.2 (sE he c a _ h.2)
    · cases h
end
end
end Pw
set_option maxHeartbeats 8000000
/-! Pw18: the nodes of statements. -/
namespace Pw
open PySem PySem.Spec PyProof.Rows L2
theorem imp_PS {X : Cx} {e : Stmt} {t t' : TS} (h : L2.PS X e t) (i : ∀ D σ H, t' D σ H → t D σ H) : L2.PS X e t' := ⟨fun pins s σ H D I q => h.run pins s σ H D I (i D σ H q)⟩
theorem imp_PSs {X : Cx} {e : List Stmt} {t t' : TS} (h : L2.PSs X e t) (i : ∀ D σ H, t' D σ H → t D σ H) : L2.PSs X e t' := ⟨fun pins s σ H D I q => h.run pins s σ H D I (i D σ H q)⟩
/-- a place of a def's body -/
structure Sz (G : Gr) (W : Row) (d : Nat) (N : List PySem.Str) (sc : Scope) (E : XK) (X : Cx) : Prop where
  c : Cz G W d N sc E X
  own : PassesOwn (model X.prog X.w) X.A X.env X.xe
  tk : L2N.Takes X (fun cls d _ H => E cls d H)
  fn : ∀ x, X.fn x = true
section
variable {G : Gr} {W : Row} {d : Nat} {N : List PySem.Str} {sc : Scope} {E : XK} {X : Cx}
theorem Sz.loc (z : Sz G W d N sc E X) {x : PySem.Str} (h : locB sc x = true) : Loc X.env.scope x ∧ (X.fn x = true ∨ X.env.scope.names.lookup x = some .local) := by
  refine ⟨?_, .inl (z.fn x)⟩
  rw [z.c.hsc]
  unfold locB at h
  split at h
  · rename_i q; exact .inl q
  · rename_i q; exact .inr q
  · cases h
theorem Sz.lcl (z : Sz G W d N sc E X) {x : PySem.Str} (h : lclB sc x = true) : X.env.scope.names.lookup x = some .local := by
  rw [z.c.hsc]
  unfold lclB at h
  split at h
  · assumption
  · cases h
theorem Sz.tgt (z : Sz G W d N sc E X) {t : Tg} {e : Expr} (h : mT N sc t e = true) : PG X e (TGv G t) := Pw.tgt z.c.hN z.c.nd z.c.calm (fun x hx => z.loc hx) t e h
/-- what a statement's ends ask of a flow -/
abbrev QF (D : Ends) : L2.St ⊕ V → Hp → Prop := fun x H' => match x with
  | .inl σ' => D.nx σ' H'
  | .inr u => D.rt u H'
theorem s_pass {p : Pos} : L2.PS X (.Pass p) (TSv G E fun ρ S => .ok (.nx ρ) S) := imp_PS ps_pass fun D σ H h => by
  obtain ⟨φ, η, ρ, S, hs, hρ, hp⟩ := h
  exact hp φ H (.inl σ) (.refl _ _) hs hρ
theorem ss_nil : L2.PSs X [] (TSv G E fun ρ S => .ok (.nx ρ) S) := imp_PSs pss_nil fun D σ H h => by
  obtain ⟨φ, η, ρ, S, hs, hρ, hp⟩ := h
  exact hp φ H (.inl σ) (.refl _ _) hs hρ
theorem ss_cons {s : Stmt} {r : List Stmt} {t u : Pw.Env → PSt → R Fl} (h1 : L2.PS X s (TSv G E t)) (h2 : L2.PSs X r (TSv G E u)) : L2.PSs X (s :: r) (TSv G E fun ρ S => (t ρ S).bind fun fl S => (match fl with
    | .nx ρ' => u ρ' S
    | .ret v => .ok (.ret v) S)) := imp_PSs (pss_cons h1 h2) fun D σ H h => by
  obtain ⟨φ, η, ρ, S, hs, hρ, hp⟩ := h
  refine ⟨φ, η, ρ, S, hs, hρ, hp.bind (rel' := relF G) fun fl S1 φ1 H1 x x1 hs1 rx hp1 => ?_⟩
  cases fl with
  | nx ρ' =>
    cases x with
    | inl σ' => exact ⟨φ1, η, ρ', S1, hs1, rx, hp1⟩
    | inr v => exact False.elim rx
  | ret v =>
    cases x with
    | inl σ' => exact False.elim rx
    | inr u => exact hp1 φ1 H1 (.inr u) (.refl _ _) hs1 rx
theorem imp_asg {t : Tg} {r : Pw.Env → PSt → R PV} {D : Ends} {σ : L2.St} {H : Hp} (h : TSv G E (fun ρ S => (r ρ S).bind fun v S => (match bindT t v ρ with
    | some ρ' => .ok (.nx ρ') S
    | none => .err)) D σ H) : tAsg (TEv G E r) (TGv G t) D σ H := by
  obtain ⟨φ, η, ρ, S, hs, hρ, hp⟩ := h
  refine ⟨φ, η, ρ, S, hs, hρ, hp.bind (rel' := relV G) fun v S1 φ1 H1 x x1 hs1 rx hp1 => ?_⟩
  cases hb : bindT t v ρ with
  | none => rw [hb] at hp1; exact (hp1 : False).elim
  | some ρ' =>
    rw [hb] at hp1
    exact ⟨φ1, η, ρ, v, ρ', hρ.mono x1, rx, hb, fun σ' hρ' _ => hp1 φ1 H1 (.inl σ') (.refl _ _) hs1 hρ'⟩
theorem swaps_no {e : Expr} {tg : Option Expr} {l : Nat} {env : PySem.Env} (ho : okE e = true) (h : ∀ a b s p, e ≠ .ListComp a b s p) : swapsWith e tg l env = pure false := by
  cases e <;> first
    | rfl
    | exact absurd rfl (h _ _ _ _)
    | exact (Bool.false_ne_true ho).elim
theorem filterMap_ne {α β : Type} {f : α → Option β} : ∀ (l : List α) (t : α), t ∈ l → f t = none → (l.filterMap f).length ≠ l.length
  | [], t, h, _ => by cases h
  | a :: l, t, h, e => by
    have hl := List.length_filterMap_le f l
    rcases List.mem_cons.mp h with z | z
    · subst z
      rw [List.filterMap_cons_none e, List.length_cons]
      omega
    · cases q : f a with
      | none => rw [List.filterMap_cons_none q, List.length_cons]; omega
      | some b =>
        rw [List.filterMap_cons_some q, List.length_cons, List.length_cons]
        have := filterMap_ne l t z e
        omega
theorem stores_no {t : Tg} {tg v : Expr} {env : PySem.Env} (hsc : env.scope = sc) (hT : mT N sc t tg = true) (h : asgB sc tg v = true) : swappedStores [tg] v env = pure none := by
  cases t with
  | nm i =>
    unfold mT at hT
    split at hT
    · rfl
    · cases hT
  | tp tt =>
    unfold mT at hT
    split at hT
    · rename_i ts k p
      cases v with
      | Tuple vs k2 p2 =>
        have h : tupB sc ts vs = true := h
        unfold tupB at h
        have hk : ∀ id, env.kindOf id = sc.names.lookup id := fun id => by rw [← hsc]; rfl
        unfold swappedStores
        dsimp only
        split
        · rfl
        · split
          · rfl
          · split
            · rfl
            · split
              · rfl
              · rename_i g1 g2 g3 g4
                exfalso
                simp only [Bool.or_eq_true, not_or] at g1 g3
                rcases Bool.or_eq_true_iff.mp h with h | h
                · rcases Bool.or_eq_true_iff.mp h with h | h
                  · rcases Bool.or_eq_true_iff.mp h with h | h
                    · exact g1.1.2 (by simpa using h)
                    · exact g1.1.1 (by simpa using h)
                  · obtain ⟨t, ht, h⟩ := List.any_eq_true.mp h
                    refine g3.1 ?_
                    refine bne_iff_ne.mpr (filterMap_ne ts t ht ?_)
                    · 
                      cases t with
                      | Name id pos =>
                        have h : (!lclB sc id) = true := h
                        have : (env.kindOf id == some NameKind.local) = false := by
                          rw [hk]
                          unfold lclB at h
                          cases q : List.lookup id sc.names with
                          | none => rfl
                          | some kk => cases kk <;> first | rfl | (rw [q] at h; cases h)
                        simp [this]
                      | _ => rfl
                · exact g4 h
      | _ => rfl
    · cases hT
theorem s_asg (z : Sz G W d N sc E X) {t : Tg} {tg e : Expr} {p : Pos} {r : Pw.Env → PSt → R PV} (ho : okE e = true) (ht : mT N sc t tg = true) (hb : asgB sc tg e = true) (he : PE X e (TEv G E r)) (hs : swapsWithSole [tg] e p.line X.env = pure false) :
    L2.PS X (.Assign [tg] e p) (TSv G E fun ρ S => (r ρ S).bind fun v S => (match bindT t v ρ with
    | some ρ' => .ok (.nx ρ') S
    | none => .err)) := by
  refine imp_PS (ps_asg he (z.tgt ht) hs (stores_no z.c.hsc ht hb) ?_) fun D σ H h => imp_asg h
  cases t with
  | nm i =>
    unfold mT at ht
    split at ht
    · rfl
    · cases ht
  | tp tt =>
    unfold mT at ht
    split at ht
    · rfl
    · cases ht
theorem swp_eq (z : Sz G W d N sc E X) {elt : Expr} {gens : List Comprehension} {s : Scope} {p py : Pos} {x : PySem.Str} {l : Nat} : swapsWith (.ListComp elt gens s p) (some (.Name x py)) l X.env = pure (swpB sc py.line x (.ListComp elt gens s p)) := by
  have hk : X.env.kindOf x = sc.names.lookup x := by rw [← z.c.hsc]; rfl
  have hb : X.env.blockKind = .function := by
    have : X.env.scope.kind = .function := by rw [z.c.hsc]; exact z.c.kind
    unfold Env.blockKind
    rw [this]
    rfl
  show (pure (X.env.blockKind == .function && X.env.kindOf x == some .local && py.line == p.line && !(s.names.any fun (n, k) => n == x && (k == .local || k == .cell))) : Sem Bool) = _
  rw [hb, hk]
  congr 1
  show _ = (lclB sc x && (py.line == p.line) && !(s.names.any fun (n, k) => n == x && (k == .local || k == .cell)))
  congr 2
  unfold lclB
  cases q : sc.names.lookup x with
  | none => rfl
  | some kk => cases kk <;> rfl
/-- a comprehension's list that is stored at once -/
theorem s_comp (z : Sz G W d N sc E X) {elt tg it : Expr} {ifs : List Expr} {scope : Scope} {pos spos py : Pos} {y : PySem.Str} {i : Nat} {own : List Nat} {t : Tg} {rs : Pw.Env → PSt → R (List PV × Gd)} {rc : Pw.Env → PSt → R Bool} {re : Pw.Env → PSt → R PV} (hi0 : N[i]? = some y) (hsw : swpB sc py.line y (.ListComp elt [⟨tg, it, ifs, 0⟩] scope pos) = true) (hb : blkC N sc scope (ownN N own) = true) (hsl : (t.slots.all fun i => own.contains i) = true)
    (ho : okE it = true) (hi : PI X tg it (TIv G E rs)) (ht : mT N scope t tg = true) (hT : ∀ Xb, Cz G W d N (relS scope sc) EF Xb → PTs Xb ifs (TTv G EF rc)) (hE : ∀ Xb, Cz G W d N (relS scope sc) EF Xb → PE Xb elt (TEv G EF re)) :
    L2.PS X (.Assign [.Name y py] (.ListComp elt [⟨tg, it, ifs, 0⟩] scope pos) spos) (tAsg (TLv G E fun ρ S => (rs ρ S).bind fun p S => (compL (turn1 t own rc re ρ) p.2 p.1 S).bind capL) (gName i)) := by
  have c := z.c
  have B : BlkOk X.N X.env.scope scope (ownN N own) := by rw [c.hN, c.hsc]; exact blkOk_by hb
  have hl : lclB sc y = true := by
    have hsw : (lclB sc y && (py.line == pos.line) && !(scope.names.any fun (n, k) => n == y && (k == .local || k == .cell))) = true := hsw
    simp only [Bool.and_eq_true] at hsw
    exact hsw.1.1
  have L := ps_setLc (spos := spos) c.calm (by rw [c.hN]; exact c.nd) (by rw [c.hN]; exact hi0) (z.lcl hl) (by rw [swp_eq z, hsw]) hi B (fun s H C cl fp => blk_tgt c s H C cl fp ht) (fun s H C cl fp => hT _ (c.blk B.kind s H C cl fp)) (fun s H C cl fp => hE _ (c.blk B.kind s H C cl fp)) (okE_set ho)
  rw [ownN_snd] at L
  exact imp_PS L fun D σ H h => comp_imp (Q := fun x H1 => gName i x σ H1 D.nx) (slots_of hsl) h
theorem s_comp2 (z : Sz G W d N sc E X) {elt tg it tg2 it2 : Expr} {ifs : List Expr} {scope : Scope} {pos spos py : Pos} {y : PySem.Str} {i : Nat} {own own2 : List Nat} {t t2 : Tg} {rs rs2 : Pw.Env → PSt → R (List PV × Gd)} {rc : Pw.Env → PSt → R Bool} {re : Pw.Env → PSt → R PV} (hi0 : N[i]? = some y) (hsw : swpB sc py.line y (.ListComp elt [⟨tg, it, [], 0⟩, ⟨tg2, it2, ifs, 0⟩] scope pos) = true) (hb : blkC N sc scope (ownN N own) = true) (hsl : (t.slots.all fun i => own.contains i) = true) (hsl2 : (t2.slots.all fun i => own2.contains i) = true) (h2 : (own2.all fun i => own.contains i) = true)
    (ho : okE it = true) (ho2 : okE it2 = true) (hi : PI X tg it (TIv G E rs)) (ht : mT N scope t tg = true) (ht2 : mT N scope t2 tg2 = true) (hi2 : ∀ Xb, Cz G W d N (relS scope sc) EF Xb → PI Xb tg2 it2 (TIv G EF rs2)) (hT : ∀ Xb, Cz G W d N (relS scope sc) EF Xb → PTs Xb ifs (TTv G EF rc)) (hE : ∀ Xb, Cz G W d N (relS scope sc) EF Xb → PE Xb elt (TEv G EF re)) :
    L2.PS X (.Assign [.Name y py] (.ListComp elt [⟨tg, it, [], 0⟩, ⟨tg2, it2, ifs, 0⟩] scope pos) spos) (tAsg (TLv G E fun ρ S => (rs ρ S).bind fun p S => (compL (turn2 t own rs2 t2 own2 rc re ρ) p.2 p.1 S).bind capL) (gName i)) := by
  have c := z.c
  have B : BlkOk X.N X.env.scope scope (ownN N own) := by rw [c.hN, c.hsc]; exact blkOk_by hb
  have hl : lclB sc y = true := by
    have hsw : (lclB sc y && (py.line == pos.line) && !(scope.names.any fun (n, k) => n == y && (k == .local || k == .cell))) = true := hsw
    simp only [Bool.and_eq_true] at hsw
    exact hsw.1.1
  have L := ps_setLc2 (spos := spos) (vs1 := own2) c.calm (by rw [c.hN]; exact c.nd) (by rw [c.hN]; exact hi0) (z.lcl hl) (by rw [swp_eq z, hsw]) hi B (by rw [ownN_snd]; intro i hi; have := List.all_eq_true.mp h2 i hi; simpa using this) (fun s H C cl fp => blk_tgt c s H C cl fp ht) (fun s H C cl fp => pts_nil) (fun s H C cl fp => hi2 _ (c.blk B.kind s H C cl fp)) (fun s H C cl fp => blk_tgt c s H C cl fp ht2) (fun s H C cl fp => hT _ (c.blk B.kind s H C cl fp)) (fun s H C cl fp => hE _ (c.blk B.kind s H C cl fp)) (okE_set ho) (fun env x => okE_set ho2 x)
  rw [ownN_snd] at L
  exact imp_PS L fun D σ H h => comp2_imp (Q := fun x H1 => gName i x σ H1 D.nx) (slots_of hsl) (slots_of hsl2) h
theorem imp_fl {rl : Pw.Env → PSt → R (List PV)} {σ : L2.St} {H : Hp} {Q : VK} (h : TEv G E (fun ρ S => (rl ρ S).bind fun vs S => .ok (.lst vs) S) σ H Q) : TLv G E rl σ H Q := by
  obtain ⟨φ, η, ρ, S, hs, hρ, hp⟩ := h
  refine ⟨φ, η, ρ, S, hs, hρ, hp.bind (rel' := relVs G) fun vs S1 φ1 H1 us x1 hs1 rs1 hp1 p hn => ?_⟩
  exact hp1 φ1 _ _ (.new hn) (hs1.new hn) (rep_newL hs1 hn rs1)
theorem imp_nl {rl : Pw.Env → PSt → R (List PV)} {σ : L2.St} {H : Hp} {Q : VK} (h : TEv G E (fun ρ S => (rl ρ S).bind fun vs S => .ok (.ref S.length) (S ++ [.lst vs])) σ H Q) : TLv G E rl σ H Q := by
  obtain ⟨φ, η, ρ, S, hs, hρ, hp⟩ := h
  refine ⟨φ, η, ρ, S, hs, hρ, hp.bind (rel' := relVs G) fun vs S1 φ1 H1 us x1 hs1 rs1 hp1 p hn => ?_⟩
  exact hp1 (φ1 ++ [p]) _ _ (.newS hn) (hs1.newS hn rs1) ⟨p, by rw [← hs1.len]; simp, rfl⟩
/-- name = value: the end -/
theorem imp_name {i : Nat} {r : Pw.Env → PSt → R PV} {D : Ends} {σ : L2.St} {H : Hp} (h : TSv G E (fun ρ S => (r ρ S).bind fun v S => (match bindT (.nm i) v ρ with
    | some ρ' => .ok (.nx ρ') S
    | none => .err)) D σ H) : tAsg (TEv G E r) (gName i) D σ H := by
  obtain ⟨φ, η, ρ, S, hs, hρ, hp⟩ := h
  refine ⟨φ, η, ρ, S, hs, hρ, hp.bind (rel' := relV G) fun v S1 φ1 H1 x x1 hs1 rx hp1 => ?_⟩
  unfold bindT at hp1
  by_cases hl : i < ρ.length
  · rw [if_pos hl] at hp1
    exact hp1 φ1 H1 (.inl (σ.set i (some x))) (.refl _ _) hs1 ((hρ.mono x1).set rx)
  · rw [if_neg hl] at hp1
    exact (hp1 : False).elim
theorem s_ret {e : Expr} {p : Pos} {r : Pw.Env → PSt → R PV} (he : PE X e (TEv G E r)) : L2.PS X (.Return (some e) p) (TSv G E fun ρ S => (r ρ S).bind fun v S => .ok (.ret v) S) := imp_PS (ps_ret he) fun D σ H h => by
  obtain ⟨φ, η, ρ, S, hs, hρ, hp⟩ := h
  refine ⟨φ, η, ρ, S, hs, hρ, hp.bind (rel' := relV G) fun v S1 φ1 H1 x x1 hs1 rx hp1 => ?_⟩
  exact hp1 φ1 H1 (.inr x) (.refl _ _) hs1 rx
theorem s_ex {e : Expr} {p : Pos} {r : Pw.Env → PSt → R PV} (he : PE X e (TEv G E r)) (hs : swapsWith e none p.line X.env = pure false) : L2.PS X (.Expr e p) (TSv G E fun ρ S => (r ρ S).bind fun _ S => .ok (.nx ρ) S) := imp_PS (ps_expr he hs) fun D σ H h => by
  obtain ⟨φ, η, ρ, S, hs, hρ, hp⟩ := h
  refine ⟨φ, η, ρ, S, hs, hρ, hp.bind (rel' := relV G) fun v S1 φ1 H1 x x1 hs1 rx hp1 => ?_⟩
  exact hp1 φ1 H1 (.inl σ) (.refl _ _) hs1 (hρ.mono x1)
theorem s_if {c : Expr} {a b : List Stmt} {p : Pos} {rc : Pw.Env → PSt → R Bool} {ra rb : Pw.Env → PSt → R Fl} (hc : PT X c (TTv G E rc)) (ha : L2.PSs X a (TSv G E ra)) (hb : L2.PSs X b (TSv G E rb)) : L2.PS X (.If c a b p) (TSv G E fun ρ S => (rc ρ S).bind fun k S => if k = true then ra ρ S else rb ρ S) := imp_PS (ps_if hc ha hb) fun D σ H h => by
  obtain ⟨φ, η, ρ, S, hs, hρ, hp⟩ := h
  refine ⟨φ, η, ρ, S, hs, hρ, hp.bind (rel' := relB) fun v S1 φ1 H1 x x1 hs1 rx hp1 => ?_⟩
  cases (show v = x from rx)
  cases v with
  | true => exact iteT ⟨φ1, η, ρ, S1, hs1, hρ.mono x1, hp1⟩
  | false => exact iteF ⟨φ1, η, ρ, S1, hs1, hρ.mono x1, hp1⟩
theorem s_aug (z : Sz G W d N sc E X) {i : Nat} {x : PySem.Str} {o : Operator} {e : Expr} {p p2 : Pos} {r : Pw.Env → PSt → R PV} (hi : N[i]? = some x) (hx : locB sc x = true) (ho : opB .add o = true) (he : PE X e (TEv G E r)) :
    L2.PS X (.AugAssign (.Name x p) o e p2) (TSv G E fun ρ S => (R.ofO S (ρ[i]?.join)).bind fun x S => (r ρ S).bind fun y S => (match BOp.add, x, y with
    | .add, .int a, .int b => .ok (.nx (ρ.set i (some (.int (a + b))))) S
    | _, _, _ => .err)) := by
  obtain ⟨f1, f2⟩ := z.loc hx
  have : o = .Add := by cases o <;> first | rfl | cases ho
  subst this
  refine imp_PS (ps_aug (by rw [z.c.hN]; exact z.c.nd) (by rw [z.c.hN]; exact hi) f1 he ip_add f2) fun D σ H h => ?_
  obtain ⟨φ, η, ρ, S, hs, hρ, hp⟩ := h
  obtain ⟨v, e1, hp1⟩ := post_ofO_bind hp
  have e2 : ρ[i]? = some (some v) := by
    cases q : ρ[i]? with
    | none => rw [q] at e1; cases e1
    | some o => cases o with
      | none => rw [q] at e1; cases e1
      | some w => rw [q] at e1; cases e1; rfl
  obtain ⟨u, e3, rv⟩ := hρ.2 i v e2
  refine ⟨u, e3, φ, η, ρ, S, hs, hρ, hp1.bind (rel' := relV G) fun y S1 φ1 H1 yv x1 hs1 ry hp2 => ?_⟩
  cases v with
  | int a =>
    cases y with
    | int b => exact ⟨a, b, rv, ry, hp2 φ1 H1 (.inl _) (.refl _ _) hs1 ((hρ.mono x1).set rfl)⟩
    | _ => exact (hp2 : False).elim
  | _ => exact (hp2 : False).elim
/-- o[i] = v, by values -/
theorem setV_rep {φ η : List Addr} {H : Hp} {S S' : PSt} {o i v : PV} {x y w : V} (hs : StRep G φ η H S) (ro : Rep G φ η H o x) (ri : Rep G φ η H i y) (rv : Rep G φ η H v w) (e : setV S o i v = some S') {Q : Hp → Prop} (q : ∀ H', Ext φ φ H H' → StRep G φ η H' S' → Q H') : rSetL x y w H Q := by
  unfold setV at e
  split at e
  · rename_i n k
    split at e
    · rename_i xs hn
      split at e
      · rename_i j hj
        cases e
        obtain ⟨a, e1, e2⟩ := ro
        obtain ⟨us, q1, q2⟩ := hs.objs n _ a hn e1
        refine ⟨a, us, k, j, e2, ri, q1, by rw [← q2.length]; exact hj, q _ (.put e1) (hs.put e1 hn (q2.set j rv))⟩
      · cases e
    · cases e
  · cases e
theorem s_setI (z : Sz G W d N sc E X) {a b e : Expr} {p p2 : Pos} {ra rb re : Pw.Env → PSt → R PV} (hb : okE b = true) (hl : ∀ u v s q, e ≠ .ListComp u v s q) (hoe : okE e = true) (ha : PE X a (TEv G E ra)) (hbb : PE X b (TEv G E rb)) (he : PE X e (TEv G E re)) :
    L2.PS X (.Assign [.Subscript a b p] e p2) (TSv G E fun ρ S => (re ρ S).bind fun v S => (ra ρ S).bind fun x S => (rb ρ S).bind fun y S => (match setV S x y v with
    | some S' => .ok (.nx ρ) S'
    | none => .err)) := by
  refine imp_PS (ps_asg he (pg_sub ha hbb set_list (by cases b <;> first | (intro _; rfl) | exact (Bool.false_ne_true hb).elim)) (show swapsWith e (some (.Subscript a b p)) p2.line X.env = pure false from swaps_no hoe hl) rfl) fun D σ H h => ?_
  obtain ⟨φ, η, ρ, S, hs, hρ, hp⟩ := h
  refine ⟨φ, η, ρ, S, hs, hρ, hp.bind (rel' := relV G) fun v S1 φ1 H1 vv x1 hs1 rv hp1 => ?_⟩
  refine ⟨φ1, η, ρ, S1, hs1, hρ.mono x1, hp1.bind (rel' := relV G) fun x S2 φ2 H2 xv x2 hs2 rx hp2 => ?_⟩
  refine ⟨φ2, η, ρ, S2, hs2, (hρ.mono x1).mono x2, hp2.bind (rel' := relV G) fun y S3 φ3 H3 yv x3 hs3 ry hp3 => ?_⟩
  cases q : setV S3 x y v with
  | none => rw [q] at hp3; exact (hp3 : False).elim
  | some S' =>
    rw [q] at hp3
    exact setV_rep hs3 (rx.mono x3) ry ((rv.mono x2).mono x3) q fun H' x4 hs4 => hp3 φ3 H' (.inl σ) x4 hs4 ((((hρ.mono x1).mono x2).mono x3).mono x4)
theorem s_setI2 (z : Sz G W d N sc E X) {a b e f : Expr} {j : Nat} {n : PySem.Str} {p p2 p3 p4 p5 : Pos} {k k2 : Nat} {ra rb re rf : Pw.Env → PSt → R PV} (hb : okE b = true) (hoe : okE e = true) (hof : okE f = true) (hj : N[j]? = some n) (hn : locB sc n = true) (ha : PE X a (TEv G E ra)) (hbb : PE X b (TEv G E rb)) (he : PE X e (TEv G E re)) (hf : PE X f (TEv G E rf)) :
    L2.PS X (.Assign [.Tuple [.Subscript a b p, .Name n p2] k p3] (.Tuple [e, f] k2 p4) p5) (TSv G E fun ρ S => (re ρ S).bind fun v S => (rf ρ S).bind fun w S => (ra ρ S).bind fun x S => (rb ρ S).bind fun y S => (match setV S x y v with
    | some S' => if j < ρ.length then .ok (.nx (ρ.set j (some w))) S' else .err
    | none => .err)) := by
  obtain ⟨f1, f2⟩ := z.loc hn
  have hN : X.N.Nodup := by rw [z.c.hN]; exact z.c.nd
  have hT := pe_tup (x1 := k2) (pos := p4) (pa_cons he (pa_cons hf pa_nil (okE_star hof)) (okE_star hoe))
  have hg : PG X (.Subscript a b p) (gSub (TEv G E ra) (TEv G E rb) rSetL) := pg_sub ha hbb set_list (by cases b <;> first | (intro _; rfl) | exact (Bool.false_ne_true hb).elim)
  have hG := pg_tup (k := k) (pos := p3) z.c.calm (pgs_cons hg (pgs_cons (pg_name (pos := p2) hN (by rw [z.c.hN]; exact hj) f1 f2) pgs_nil))
  refine imp_PS (ps_asg (pos := p5) hT hG rfl ?_) fun D σ H h => ?_
  · unfold swappedStores
    dsimp only
    split
    · rfl
    · split
      · rfl
      · split
        · rfl
        · rename_i g1 g2 g3
          exfalso
          simp only [Bool.or_eq_true, not_or] at g3
          exact g3.1 (bne_iff_ne.mpr (filterMap_ne [Expr.Subscript a b p, Expr.Name n p2] (Expr.Subscript a b p) List.mem_cons_self rfl))
  · obtain ⟨φ, η, ρ, S, hs, hρ, hp⟩ := h
    refine ⟨φ, η, ρ, S, hs, hρ, hp.bind (rel' := relV G) fun v S1 φ1 H1 vv x1 hs1 rv hp1 => ?_⟩
    refine ⟨φ1, η, ρ, S1, hs1, hρ.mono x1, hp1.bind (rel' := relV G) fun w S2 φ2 H2 wv x2 hs2 rw hp2 => ?_⟩
    refine ⟨by show 2 ≤ sizeLine; decide, fun T hT => ?_⟩
    have xT : Ext φ2 φ2 H2 (upd H2 T (.tup [vv, wv])) := .new hT
    refine ⟨T, [vv, wv], rfl, .inl (.inl upd_same), rfl, vv, [wv], rfl, ?_⟩
    refine ⟨φ2, η, ρ, S2, hs2.new hT, ((hρ.mono x1).mono x2).mono xT, (hp2.ext xT).bind (rel' := relV G) fun x S3 φ3 H3 xv x3 hs3 rx hp3 => ?_⟩
    refine ⟨φ3, η, ρ, S3, hs3, (((hρ.mono x1).mono x2).mono xT).mono x3, hp3.bind (rel' := relV G) fun y S4 φ4 H4 yv x4 hs4 ry hp4 => ?_⟩
    cases q : setV S4 x y v with
    | none => rw [q] at hp4; exact (hp4 : False).elim
    | some S' =>
      simp only [q] at hp4
      refine setV_rep hs4 (rx.mono x4) ry ((((rv.mono x2).mono xT).mono x3).mono x4) q fun H' x5 hs5 => ?_
      by_cases hl : j < ρ.length
      · rw [if_pos hl] at hp4
        exact ⟨wv, [], rfl, rfl, hp4 φ4 H' (.inl (σ.set j (some wv))) x5 hs5 ((((((hρ.mono x1).mono x2).mono xT).mono x3).mono x4 |>.mono x5).set ((((rw.mono xT).mono x3).mono x4).mono x5))⟩
      · rw [if_neg hl] at hp4; exact (hp4 : False).elim
theorem appV_rep {φ η : List Addr} {H : Hp} {S S' : PSt} {o v : PV} {x w : V} (hs : StRep G φ η H S) (ro : Rep G φ η H o x) (rv : Rep G φ η H v w) (e : appV S o v = some S') {Q : VK} (q : ∀ H', Ext φ φ H H' → StRep G φ η H' S' → Q .non H') : rAppend x [w] H Q := by
  unfold appV at e
  split at e
  · rename_i n
    split at e
    · rename_i xs hn
      split at e
      · rename_i hl
        cases e
        obtain ⟨a, e1, e2⟩ := ro
        obtain ⟨us, q1, q2⟩ := hs.objs n _ a hn e1
        exact ⟨a, us, w, e2, rfl, q1, by rw [← q2.length, lim_eq]; exact hl, q _ (.put e1) (hs.put e1 hn (q2.append (.one rv)))⟩
      · cases e
    · cases e
  · cases e
theorem s_app (z : Sz G W d N sc E X) {a e : Expr} {n : PySem.Str} {ap p p2 : Pos} {ra re : Pw.Env → PSt → R PV} (hn : n = "append") (hline : (ap.endLine == p.line) = true) (hnm : ∃ x q, a = .Name x q) (hoe : okE e = true) (ha : PE X a (TEv G E ra)) (he : PE X e (TEv G E re)) :
    L2.PS X (.Expr (.Call (.Attribute a n ap) [e] [] p) p2) (TSv G E fun ρ S => (ra ρ S).bind fun x S => if isMut S x = true then (re ρ S).bind fun v S => (match appV S x v with
    | some S' => .ok (.nx ρ) S'
    | none => .err) else .err) := by
  subst hn
  obtain ⟨x, q, rfl⟩ := hnm
  have h := pe_bm (X := X) (name := "append") (apos := ap) (cpos := p) PySem.F.plainAttrs_list PySem.F.slot_list_append PySem.F.type_list_append mt_append ha (pa_cons he pa_nil (okE_star hoe)) rfl (by rw [okE_star hoe]; rfl) hline (okE_star hoe) rfl
  refine imp_PS (ps_expr h rfl) fun D σ H h => ?_
  obtain ⟨φ, η, ρ, S, hs, hρ, hp⟩ := h
  refine ⟨φ, η, ρ, S, hs, hρ, hp.bind (rel' := relV G) fun v S1 φ1 H1 vv x1 hs1 rv hp1 => ?_⟩
  obtain ⟨hm, hp2⟩ := post_if hp1
  refine ⟨?_, φ1, η, ρ, S1, hs1, hρ.mono x1, hp2.bind (rel' := relV G) fun w S2 φ2 H2 wv x2 hs2 rw hp3 => ?_⟩
  · cases v with
    | ref m =>
      simp only [isMut] at hm
      split at hm
      · rename_i xs hn
        obtain ⟨a, e1, e2⟩ := rv
        obtain ⟨us, q1, q2⟩ := hs1.objs m _ a hn e1
        rw [e2]
        exact .inl ⟨rfl, us, .inl (.inl q1)⟩
      · cases hm
    | _ => cases hm
  · cases q : appV S2 v w with
    | none => rw [q] at hp3; exact (hp3 : False).elim
    | some S' =>
      rw [q] at hp3
      exact appV_rep (Q := fun _ H' => D.nx σ H') hs2 (rv.mono x2) rw q fun H' x3 hs3 => hp3 φ2 H' (.inl σ) x3 hs3 (((hρ.mono x1).mono x2).mono x3)
/-! ### two or three names stored at once -/
theorem two_of {α : Type} {l : List α} (h : l.length = 2) : ∃ a b, l = [a, b] := by
  match l, h with
  | [a, b], _ => exact ⟨a, b, rfl⟩
theorem three_of {α : Type} {l : List α} (h : l.length = 3) : ∃ a b c, l = [a, b, c] := by
  match l, h with
  | [a, b, c], _ => exact ⟨a, b, c, rfl⟩
def tParV (is : List Nat) (ta : TA) : TS := fun D σ H => ta σ H fun vs H1 => vs.length = is.length ∧ D.nx ((is.zip vs).foldl (fun σ p => σ.set p.1 (some p.2)) σ) H1
theorem parE_rep {φ η : List Addr} {H : Hp} : ∀ (is : List Nat) (vs : List PV) (us : List V) (ρ ρ' : Pw.Env) (σ : L2.St), ERep G φ η H ρ σ → Reps G φ η H vs us → parE is vs ρ = some ρ' → ERep G φ η H ρ' ((is.zip us).foldl (fun σ p => σ.set p.1 (some p.2)) σ) ∧ us.length = is.length
  | [], [], us, ρ, ρ', σ, hρ, r, e => by
    cases e
    have r : us = [] := r
    subst r
    exact ⟨hρ, rfl⟩
  | i :: is, v :: vs, us, ρ, ρ', σ, hρ, r, e => by
    obtain ⟨u, us', e1, r1, r2⟩ := r
    subst e1
    unfold parE at e
    split at e
    · obtain ⟨q1, q2⟩ := parE_rep is vs us' _ ρ' _ (hρ.set r1) r2 e
      exact ⟨q1, by rw [List.length_cons, List.length_cons, q2]⟩
    · cases e
  | [], _ :: _, _, _, _, _, _, _, e => by cases e
  | _ :: _, [], _, _, _, _, _, _, e => by cases e
theorem s_par (z : Sz G W d N sc E X) {is : List Nat} {ts vs : List Expr} {k k2 : Nat} {p p2 p3 : Pos} {r : Pw.Env → PSt → R (List PV)} (hm : mNs N sc is ts = true) (hv : PA X vs (TAv G E r)) (hb : parB sc ts vs = true) (hnd : is.Nodup) (hlen : is.length = 2 ∨ is.length = 3) (hlv : vs.length = is.length) (ho : ∀ e ∈ vs, okE e = true) :
    L2.PS X (.Assign [.Tuple ts k p] (.Tuple vs k2 p2) p3) (TSv G E fun ρ S => (r ρ S).bind fun vs S => (match parE is vs ρ with
    | some ρ' => .ok (.nx ρ') S
    | none => .err)) := by
  have hN : X.N.Nodup := by rw [z.c.hN]; exact z.c.nd
  have hk : ∀ id, X.env.kindOf id = sc.names.lookup id := fun id => by rw [← z.c.hsc]; rfl
  have hbk : X.env.blockKind = .function := by
    have : X.env.scope.kind = .function := by rw [z.c.hsc]; exact z.c.kind
    unfold Env.blockKind
    rw [this]
    rfl
  have lk : ∀ id, lclB sc id = true → (X.env.kindOf id == some .local) = true := fun id h => by
    rw [hk]
    unfold lclB at h
    cases q : sc.names.lookup id with
    | none => rw [q] at h; cases h
    | some kk => cases kk <;> first | rfl | (rw [q] at h; cases h)
  unfold parB at hb
  simp only [Bool.and_eq_true, decide_eq_true_eq, Bool.not_eq_true'] at hb
  obtain ⟨⟨⟨⟨b1, b2⟩, b3⟩, b4⟩, b5⟩ := hb
  have hst : ∀ f : Expr → Bool, (∀ e, okE e = true → f e = false) → ¬ (vs.any f = true) := fun f hf h => by
    obtain ⟨e, he, h⟩ := List.any_eq_true.mp h
    rw [hf e (ho e he)] at h
    cases h
  have nq : ∀ {i j : Nat} {x y : PySem.Str}, N[i]? = some x → N[j]? = some y → i ≠ j → x ≠ y := fun {i j x y} h1 h2 h3 e => by
    subst e
    obtain ⟨q1, e1⟩ := List.getElem?_eq_some_iff.mp h1
    obtain ⟨q2, e2⟩ := List.getElem?_eq_some_iff.mp h2
    exact h3 ((List.getElem_inj z.c.nd).mp (e1.trans e2.symm))
  have fin : ∀ {D : Ends} {σ : L2.St} {H : Hp}, TSv G E (fun ρ S => (r ρ S).bind fun vs S => (match parE is vs ρ with
      | some ρ' => .ok (.nx ρ') S
      | none => .err)) D σ H → tParV is (TAv G E r) D σ H := fun {D σ H} h => by
    obtain ⟨φ, η, ρ, S, hs, hρ, hp⟩ := h
    refine ⟨φ, η, ρ, S, hs, hρ, hp.bind (rel' := relVs G) fun vs S1 φ1 H1 us x1 hs1 rv hp1 => ?_⟩
    cases q : parE is vs ρ with
    | none => simp only [q] at hp1; exact (hp1 : False).elim
    | some ρ' =>
      simp only [q] at hp1
      obtain ⟨q1, q2⟩ := parE_rep is vs us ρ ρ' σ (hρ.mono x1) rv q
      exact ⟨q2, hp1 φ1 H1 (.inl _) (.refl _ _) hs1 q1⟩
  rcases hlen with hlen | hlen
  · obtain ⟨i, j, rfl⟩ := two_of hlen
    obtain ⟨a, b, rfl⟩ := two_of hlv
    unfold mNs at hm
    split at hm
    · rename_i x px ts1
      simp only [Bool.and_eq_true, decide_eq_true_eq] at hm
      obtain ⟨⟨n1, l1⟩, hm⟩ := hm
      unfold mNs at hm
      split at hm
      · rename_i y py ts2
        simp only [Bool.and_eq_true, decide_eq_true_eq] at hm
        obtain ⟨⟨n2, l2⟩, hm⟩ := hm
        unfold mNs at hm
        cases ts2 with
        | cons _ _ => cases hm
        | nil =>
          have hij : i ≠ j := by simpa using hnd
          have hxy := nq n1 n2 hij
          simp only [List.all_cons, List.all_nil, Bool.and_true, Bool.and_eq_true] at b3
          refine imp_PS (ps_par (i := i) (j := j) z.c.calm hN (by rw [z.c.hN]; exact n1) (by rw [z.c.hN]; exact n2) hij (z.lcl l1) (z.lcl l2) hv ?_) fun D σ H h => ?_
          · unfold swappedStores
            dsimp only
            rw [if_neg (by rw [hbk]; simp), if_neg (hst _ fun e he => by cases e <;> first | exact (Bool.false_ne_true he).elim | rfl)]
            have c1 := lk x l1
            have c2 := lk y l2
            have d1 := b3.1.2
            have d2 := b3.2.2
            simp only [List.filterMap_cons, List.filterMap_nil, c1, c2, d1, d2, Bool.and_self, if_true]
            rw [if_neg (by simp [List.eraseDups_cons, Ne.symm hxy]), b4, b5]
            rfl
          · obtain ⟨φ, η, ρ, S, hs, hρ, hp⟩ := fin h
            exact ⟨φ, η, ρ, S, hs, hρ, hp.mono fun us H' ⟨q1, q2⟩ => by
              obtain ⟨u, w, rfl⟩ := two_of q1
              exact ⟨u, w, rfl, q2⟩⟩
      · cases hm
    · cases hm
  · obtain ⟨i, j, l, rfl⟩ := three_of hlen
    obtain ⟨a, b, c, rfl⟩ := three_of hlv
    unfold mNs at hm
    split at hm
    · rename_i x px ts1
      simp only [Bool.and_eq_true, decide_eq_true_eq] at hm
      obtain ⟨⟨n1, l1⟩, hm⟩ := hm
      unfold mNs at hm
      split at hm
      · rename_i y py ts2
        simp only [Bool.and_eq_true, decide_eq_true_eq] at hm
        obtain ⟨⟨n2, l2⟩, hm⟩ := hm
        unfold mNs at hm
        split at hm
        · rename_i w pw ts3
          simp only [Bool.and_eq_true, decide_eq_true_eq] at hm
          obtain ⟨⟨n3, l3⟩, hm⟩ := hm
          unfold mNs at hm
          cases ts3 with
          | cons _ _ => cases hm
          | nil =>
            simp only [List.nodup_cons, List.mem_cons, List.not_mem_nil, or_false, not_or] at hnd
            have hij : i ≠ j := hnd.1.1
            have hil : i ≠ l := hnd.1.2
            have hjl : j ≠ l := hnd.2.1
            have hxy := nq n1 n2 hij
            have hxw := nq n1 n3 hil
            have hyw := nq n2 n3 hjl
            simp only [List.all_cons, List.all_nil, Bool.and_true, Bool.and_eq_true] at b3
            refine imp_PS (ps_par3 (i := i) (j := j) (l := l) z.c.calm hN (by rw [z.c.hN]; exact n1) (by rw [z.c.hN]; exact n2) (by rw [z.c.hN]; exact n3) hij hil hjl (z.lcl l1) (z.lcl l2) (z.lcl l3) hv ?_) fun D σ H h => ?_
            · unfold swappedStores
              dsimp only
              rw [if_neg (by rw [hbk]; simp), if_neg (hst _ fun e he => by cases e <;> first | exact (Bool.false_ne_true he).elim | rfl)]
              have c1 := lk x l1
              have c2 := lk y l2
              have c3 := lk w l3
              have d1 := b3.1.2
              have d2 := b3.2.1.2
              have d3 := b3.2.2.2
              simp only [List.filterMap_cons, List.filterMap_nil, c1, c2, c3, d1, d2, d3, Bool.and_self, if_true]
              rw [if_neg (by simp [List.eraseDups_cons, Ne.symm hxy, Ne.symm hxw, Ne.symm hyw]), b4, b5]
              rfl
            · obtain ⟨φ, η, ρ, S, hs, hρ, hp⟩ := fin h
              exact ⟨φ, η, ρ, S, hs, hρ, hp.mono fun us H' ⟨q1, q2⟩ => by
                obtain ⟨u, v, w, rfl⟩ := three_of q1
                exact ⟨u, v, w, rfl, q2⟩⟩
        · cases hm
      · cases hm
    · cases hm
theorem s_raise (z : Sz G W d N sc E X) {k : XC} {x m : PySem.Str} {j : Nat} {p p2 p3 p4 : Pos} (h1 : x = k.py) (h2 : glB sc x = true) (h3 : W.okX k = true) (h4 : nmOk x = true) (h5 : plainX k = true) :
    L2.PS X (.Raise (some (.Call (.Name x p) [.Constant (.str m) j p2] [] p3)) none p4) (TSv G E fun ρ S => (R.ok [] S : R (List PV)).bind fun vs S => .exc k vs S) := by
  obtain ⟨a, e1, e2, e3, e4, e5⟩ := z.c.tab.xc k h3
  refine imp_PS (L2N.ps_raise z.c.calm z.tk (L2N.pmk_own PySem.F.excBase_ValueError (by rw [z.c.hK]; exact e5 h5) (by rw [z.c.hmg, h1]; exact e1) (by rw [z.c.hK]; exact e2) (raises_own (by rw [z.c.hK]; exact e3) (by rw [z.c.hK]; exact e4)) (gl_of z.c.hsc h2) (nm_parts h4).1)) fun D σ H h => ?_
  obtain ⟨φ, η, ρ, S, hs, hρ, hp⟩ := h
  exact hp φ H (.ref a) none (.refl _ _) hs ⟨a, e1, rfl, z.c.tab.okX k h3, rfl⟩
open Classical in
theorem whl_some {c : Pw.Env → PSt → R Bool} {b : Pw.Env → PSt → R Fl} {ρ : Pw.Env} {S : PSt} : whlL c b ρ S = .err ∨ ∃ n r, whlN c b n ρ S = some r ∧ whlL c b ρ S = r := by
  unfold whlL
  cases h0 : whlN c b 10000 ρ S with
  | some r => exact .inr ⟨10000, r, h0, rfl⟩
  | none =>
    show dite _ _ _ = _ ∨ _
    by_cases h : ∃ n r, whlN c b n ρ S = some r
    · exact .inr ⟨_, _, Classical.choose_spec (Classical.choose_spec h), by rw [dif_pos h]⟩
    · exact .inl (by rw [dif_neg h])
theorem s_whl (z : Sz G W d N sc E X) {e : Expr} {b : List Stmt} {p : Pos} {rc : Pw.Env → PSt → R Bool} {rb : Pw.Env → PSt → R Fl} (hc : PT X e (TTv G E rc)) (hb : L2.PSs X b (TSv G E rb)) : L2.PS X (.While e b [] p) (TSv G E fun ρ S => whlL rc rb ρ S) :=
  imp_PS (ps_while z.own hc hb) fun D σ H h => by
    obtain ⟨φ, η, ρ, S, hs, hρ, hp⟩ := h
    have hp : Post G (relF G) E φ η H (QF D) (whlL rc rb ρ S) := hp
    rcases whl_some (c := rc) (b := rb) (ρ := ρ) (S := S) with q | ⟨n, r, q1, q2⟩
    · rw [q] at hp; exact (hp : False).elim
    rw [q2] at hp
    refine ⟨fun m σ' H' => ∃ φ' ρ' S', Ext φ φ' H H' ∧ StRep G φ' η H' S' ∧ ERep G φ' η H' ρ' σ' ∧ whlN rc rb m ρ' S' = some r, ⟨n, φ, ρ, S, .refl _ _, hs, hρ, q1⟩, ?_⟩
    rintro m σ1 H1 ⟨φ1, ρ1, S1, x1, hs1, hρ1, q⟩
    cases m with
    | zero => cases q
    | succ m =>
      refine ⟨φ1, η, ρ1, S1, hs1, hρ1, ?_⟩
      unfold whlN at q
      cases h1 : rc ρ1 S1 with
      | ok k S2 =>
        rw [h1] at q
        intro φ2 H2 kk x2 hs2 ek
        cases (show k = kk from ek)
        cases k with
        | false =>
          rw [if_neg Bool.false_ne_true]
          simp only [Option.some.injEq] at q
          subst q
          exact hp φ2 H2 (.inl σ1) (x1.trans x2) hs2 (hρ1.mono x2)
        | true =>
          rw [if_pos rfl]
          simp only at q
          refine ⟨fun σ' H' => ∃ φ' ρ' S', Ext φ φ' H H' ∧ StRep G φ' η H' S' ∧ ERep G φ' η H' ρ' σ' ∧ whlN rc rb m ρ' S' = some r, fun σ' H' w => ⟨m, Nat.lt_succ_self m, w⟩, φ2, η, ρ1, S2, hs2, hρ1.mono x2, ?_⟩
          cases h2 : rb ρ1 S2 with
          | ok fl S3 =>
            rw [h2] at q
            intro φ3 H3 u x3 hs3 ru
            cases fl with
            | nx ρ3 =>
              cases u with
              | inl σ3 => exact ⟨φ3, ρ3, S3, (x1.trans x2).trans x3, hs3, ru, q⟩
              | inr u => exact False.elim ru
            | ret v =>
              cases u with
              | inl σ3 => exact False.elim ru
              | inr u =>
                simp only [Option.some.injEq] at q
                subst q
                exact hp φ3 H3 (.inr u) ((x1.trans x2).trans x3) hs3 ru
          | exc c vs S3 =>
            rw [h2] at q
            simp only [Option.some.injEq] at q
            subst q
            exact fun φ3 H3 cls od x3 hs3 xr => hp φ3 H3 cls od ((x1.trans x2).trans x3) hs3 xr
          | err =>
            rw [h2] at q
            simp only [Option.some.injEq] at q
            subst q
            exact hp
      | exc c vs S2 =>
        rw [h1] at q
        simp only [Option.some.injEq] at q
        subst q
        exact fun φ2 H2 cls od x2 hs2 xr => hp φ2 H2 cls od (x1.trans x2) hs2 xr
      | err =>
        rw [h1] at q
        simp only [Option.some.injEq] at q
        subst q
        exact hp
theorem s_for (z : Sz G W d N sc E X) {tg it : Expr} {t : Tg} {b : List Stmt} {p : Pos} {rs : Pw.Env → PSt → R (List PV × Gd)} {rb : Pw.Env → PSt → R Fl} (ho : okE it = true) (ht : mT N sc t tg = true) (hi : PI X tg it (TIv G E rs)) (hb : L2.PSs X b (TSv G E rb)) :
    L2.PS X (.For tg it b [] p) (TSv G E fun ρ S => (rs ρ S).bind fun p S => forL (fun x ρ S => (match bindT t x ρ with
    | some ρ' => rb ρ' S
    | none => .err)) p.2 p.1 ρ S) :=
  imp_PS (ps_for z.own z.c.calm hi (z.tgt ht) hb (okE_set ho)) fun D σ H h => by
    obtain ⟨φ, η, ρ, S, hs, hρ, hp⟩ := h
    refine ⟨φ, η, ρ, S, hs, hρ, hp.bind (rel' := relI G) fun pp S1 φ1 H1 J x1 hs1 src hp1 => ?_⟩
    obtain ⟨r, er⟩ : ∃ r, forL (fun x ρ S => (match bindT t x ρ with
      | some ρ' => rb ρ' S
      | none => .err)) pp.2 pp.1 ρ S1 = r := ⟨_, rfl⟩
    rw [er] at hp1
    generalize hf : (fun x ρ S => (match bindT t x ρ with
      | some ρ' => rb ρ' S
      | none => .err) : PV → Pw.Env → PSt → R Fl) = f at er
    refine ⟨fun i m σ' H' => m = pp.1.length - i ∧ i ≤ pp.1.length ∧ ∃ φ' ρ' S', Ext φ1 φ' H1 H' ∧ StRep G φ' η H' S' ∧ ERep G φ' η H' ρ' σ' ∧ forL f pp.2 (pp.1.drop i) ρ' S' = r, ⟨_, rfl, Nat.zero_le _, φ1, ρ, S1, .refl _ _, hs1, hρ.mono x1, er⟩, ?_⟩
    rintro i m σ2 H2 ⟨rfl, hi2, φ2, ρ2, S2, x2, hs2, hρ2, q⟩
    by_cases hlt : i < pp.1.length
    · obtain ⟨pv, hpv⟩ : ∃ pv, pp.1[i]? = some pv := ⟨pp.1[i], by simp [hlt]⟩
      rw [drop_at hpv] at q
      unfold forL at q
      by_cases hg : gdOk pp.2 S2
      · rw [if_pos hg] at q
        obtain ⟨go, yl⟩ := (src φ2 η H2 S2 (.refl _ _) x2.w hs2 hg).1 i hlt
        refine .inr ⟨go, fun σ' H' => i + 1 ≤ pp.1.length ∧ ∃ φ' ρ' S', Ext φ1 φ' H1 H' ∧ StRep G φ' η H' S' ∧ ERep G φ' η H' ρ' σ' ∧ forL f pp.2 (pp.1.drop (i + 1)) ρ' S' = r, fun σ' H' w => ⟨_, by omega, rfl, w⟩, fun x H3 hy => ?_⟩
        obtain ⟨x3, hs3, pv', hpv', rx⟩ := yl x H3 hy
        rw [hpv] at hpv'
        cases hpv'
        have ef : f pv ρ2 S2 = (match bindT t pv ρ2 with
          | some ρ' => rb ρ' S2
          | none => .err) := by rw [← hf]
        rw [ef] at q
        cases hb2 : bindT t pv ρ2 with
        | none =>
          simp only [hb2, R.bind] at q
          rw [← q] at hp1
          exact (hp1 : False).elim
        | some ρ3 =>
          simp only [hb2] at q
          refine ⟨φ2, η, ρ2, pv, ρ3, hρ2.mono x3, rx, hb2, fun σ3 hρ3 _ => ?_⟩
          refine ⟨φ2, η, ρ3, S2, hs3, hρ3, ?_⟩
          cases h2 : rb ρ3 S2 with
          | ok fl S4 =>
            rw [h2] at q
            intro φ4 H4 u x4 hs4 ru
            cases fl with
            | nx ρ4 =>
              cases u with
              | inl σ4 => exact ⟨hlt, φ4, ρ4, S4, (x2.trans x3).trans x4, hs4, ru, q⟩
              | inr u => exact False.elim ru
            | ret v =>
              cases u with
              | inl σ4 => exact False.elim ru
              | inr u =>
                simp only [R.bind] at q
                rw [← q] at hp1
                exact hp1 φ4 H4 (.inr u) ((x2.trans x3).trans x4) hs4 ru
          | exc c vs S4 =>
            rw [h2] at q
            simp only [R.bind] at q
            rw [← q] at hp1
            exact fun φ4 H4 cls od x4 hs4 xr => hp1 φ4 H4 cls od ((x2.trans x3).trans x4) hs4 xr
          | err =>
            rw [h2] at q
            simp only [R.bind] at q
            rw [← q] at hp1
            exact hp1
      · rw [if_neg hg] at q
        rw [← q] at hp1
        exact (hp1 : False).elim
    · have hi' : i = pp.1.length := by omega
      rw [hi', List.drop_length] at q
      unfold forL at q
      by_cases hg : gdOk pp.2 S2
      · rw [if_pos hg] at q
        rw [← q] at hp1
        exact .inl ⟨by rw [hi']; exact (src φ2 η H2 S2 (.refl _ _) x2.w hs2 hg).2, hp1 φ2 H2 (.inl σ2) x2 hs2 hρ2⟩
      · rw [if_neg hg] at q
        rw [← q] at hp1
        exact (hp1 : False).elim
end
end Pw
set_option maxHeartbeats 16000000
/-! Pw19: every statement that the checker takes. -/
namespace Pw
open PySem PySem.Spec PyProof.Rows L2
section
variable {G : Gr} {W : Row} {d : Nat} {N : List PySem.Str} {sc : Scope} {E : XK} {X : Cx}
def isLC : Expr → Bool
  | .ListComp .. => true
  | _ => false
theorem notLC {e : Expr} (h : isLC e = false) : ∀ a b s p, e ≠ .ListComp a b s p := fun a b s p z => by
  rw [z] at h
  cases h
theorem imp_asgPS {st : Stmt} {t1 t2 : TE} {g : TG} (h : L2.PS X st (tAsg t1 g)) (i : ∀ σ H Q, t2 σ H Q → t1 σ H Q) : L2.PS X st (tAsg t2 g) := imp_PS h fun D σ H q => i σ H _ q
/-- a comprehension's list that is stored at once -/
theorem sSwp (he : ErrOk G d) (z : Sz G W d N sc E X) {elt : Expr} {gens : List Comprehension} {s : Scope} {p py spos : Pos} {y : PySem.Str} {i : Nat} (hi0 : N[i]? = some y) (hsw : swpB sc py.line y (.ListComp elt gens s p) = true) :
    ∀ e : PX, mE W N sc e (.ListComp elt gens s p) = true → L2.PS X (.Assign [.Name y py] (.ListComp elt gens s p) spos) (tAsg (TEv G E (ev (run G.T d) e)) (gName i)) := by
  have key : ∀ l : PXl, mL W N sc l (.ListComp elt gens s p) = true → L2.PS X (.Assign [.Name y py] (.ListComp elt gens s p) spos) (tAsg (TLv G E (evL (run G.T d) l)) (gName i)) := fun l h => by
    have c := z.c
    cases l with
    | comp own t s k e =>
      unfold mL at h
      split at h
      · rename_i elt tg it ifs scope pos q
        cases q
        simp only [Bool.and_eq_true] at h
        obtain ⟨⟨⟨⟨⟨⟨h1, h2⟩, h3⟩, h4⟩, h5⟩, h6⟩, h7⟩ := h
        refine s_comp z hi0 hsw h4 h2 (mR_ok h3) (sR he c s _ tg h3 (h1t h1 h5)) h5 (fun Xb cb => pts_of ?_) fun Xb cb => sE he cb e _ h7
        split at h6
        · split at h6
          · exact .inl ⟨rfl, fun ρ S => rfl⟩
          · cases h6
        · simp only [Bool.and_eq_true] at h6
          exact .inr ⟨_, rfl, sT he cb k _ h6.2⟩
        · cases h6
      · cases h
    | comp2 own t s own2 t2 s2 k e =>
      unfold mL at h
      split at h
      · rename_i elt tg it tg2 it2 ifs scope pos q
        cases q
        simp only [Bool.and_eq_true] at h
        obtain ⟨⟨⟨⟨⟨⟨⟨⟨⟨⟨⟨h1, h2⟩, h3⟩, h4⟩, h5⟩, h6⟩, h7⟩, h8⟩, h9⟩, h10⟩, h11⟩, h12⟩ := h
        refine s_comp2 z hi0 hsw h6 h3 h4 h8 (mR_ok h5) (mR_ok h9) (sR he c s _ tg h5 (h1t h1 h7)) h7 h10 (fun Xb cb => sR he cb s2 _ tg2 h9 (h1t h2 h10)) (fun Xb cb => pts_of ?_) fun Xb cb => sE he cb e _ h12
        split at h11
        · split at h11
          · exact .inl ⟨rfl, fun ρ S => rfl⟩
          · cases h11
        · simp only [Bool.and_eq_true] at h11
          exact .inr ⟨_, rfl, sT he cb k _ h11.2⟩
        · cases h11
      · cases h
    | _ => unfold mL at h; cases h
  intro e h
  cases e with
  | fl l =>
    unfold mE at h
    exact imp_asgPS (key l h) fun σ H Q q => imp_fl q
  | nl l =>
    unfold mE at h
    exact imp_asgPS (key l h) fun σ H Q q => imp_nl q
  | _ => unfold mE at h; cases h
theorem isLC_cases (e : Expr) : isLC e = false ∨ ∃ elt gens s p, e = .ListComp elt gens s p := by
  cases e <;> first
    | exact .inr ⟨_, _, _, _, rfl⟩
    | exact .inl rfl
theorem ps_err {st : Stmt} : L2.PS X st (TSv G E fun _ _ => .err) := ⟨fun pins s σ H D I h => by
  obtain ⟨φ, η, ρ, S, hs, hρ, hp⟩ := h
  exact (hp : False).elim⟩
mutual
theorem sS (he : ErrOk G d) (z : Sz G W d N sc E X) : ∀ (s : PS) (st : Stmt), mS W N sc s st = true → L2.PS X st (TSv G E (exec (run G.T d) s))
  | .pass, st, h => by
    unfold mS at h
    split at h
    · exact s_pass
    · cases h
  | .bad, st, h => ps_err
  | .asg t e, st, h => by
    unfold mS at h
    split at h
    · rename_i tg x p
      simp only [Bool.and_eq_true] at h
      obtain ⟨⟨⟨h1, h2⟩, h3⟩, h4⟩ := h
      rcases isLC_cases x with q | ⟨elt, gens, s, p2, rfl⟩
      · exact s_asg z h1 h2 h4 (sE he z.c e _ h3) (show swapsWith x (some tg) p.line X.env = pure false from swaps_no h1 (notLC q))
      · cases t with
        | tp ts =>
          refine s_asg z h1 h2 h4 (sE he z.c e _ h3) ?_
          unfold mT at h2
          split at h2
          · rfl
          · cases h2
        | nm i =>
          have h2' := h2
          unfold mT at h2'
          split at h2'
          · rename_i y py
            simp only [Bool.and_eq_true, decide_eq_true_eq] at h2'
            cases hsw : swpB sc py.line y (.ListComp elt gens s p2) with
            | true => exact imp_PS (sSwp he z h2'.1 hsw e h3) fun D σ H q => imp_name q
            | false => exact s_asg z h1 h2 h4 (sE he z.c e _ h3) (show swapsWith (.ListComp elt gens s p2) (some (.Name y py)) p.line X.env = pure false by rw [swp_eq z, hsw])
          · cases h2'
    · cases h
  | .par ts es, st, h => by
    unfold mS at h
    split at h
    · rename_i tg k p x k2 p2 p3
      simp only [Bool.and_eq_true, decide_eq_true_eq] at h
      obtain ⟨⟨⟨⟨⟨h1, h2⟩, h3⟩, h4⟩, h5⟩, h6⟩ := h
      exact s_par z h1 (sEs he z.c es _ h2) h3 h4 h5 (by rw [mEs_len es _ h2]; exact h6) (mEs_ok es _ h2)
    · cases h
  | .setI o i e, st, h => by
    unfold mS at h
    split at h
    · rename_i x y p w p2
      simp only [Bool.and_eq_true] at h
      obtain ⟨⟨⟨⟨⟨⟨h1, h2⟩, h3⟩, h4⟩, h5⟩, h6⟩, h7⟩ := h
      refine s_setI z h1 (notLC ?_) h2 (sE he z.c o _ h4) (sE he z.c i _ h5) (sE he z.c e _ h6)
      cases w <;> first | rfl | cases h7
    · cases h
  | .setI2 o i j a b, st, h => by
    unfold mS at h
    split at h
    · simp only [Bool.and_eq_true, decide_eq_true_eq] at h
      obtain ⟨⟨⟨⟨⟨⟨⟨⟨⟨h1, h2⟩, h3⟩, h4⟩, h5⟩, h6⟩, h7⟩, h8⟩, h9⟩, h10⟩ := h
      exact s_setI2 z h2 h3 h4 h7 h8 (sE he z.c o _ h5) (sE he z.c i _ h6) (sE he z.c a _ h9) (sE he z.c b _ h10)
    · cases h
  | .aug i op e, st, h => by
    unfold mS at h
    split at h
    · simp only [Bool.and_eq_true, decide_eq_true_eq] at h
      obtain ⟨⟨⟨⟨h1, h2⟩, h3⟩, h4⟩, h5⟩ := h
      subst h4
      exact s_aug z h1 h2 h3 (sE he z.c e _ h5)
    · cases h
  | .app o e, st, h => by
    unfold mS at h
    split at h
    · rename_i x n ap y p p2
      simp only [Bool.and_eq_true, decide_eq_true_eq] at h
      obtain ⟨⟨⟨⟨⟨h1, h2⟩, h3⟩, h4⟩, h5⟩, h6⟩ := h
      refine s_app z h1 h2 ?_ h4 (sE he z.c o _ h5) (sE he z.c e _ h6)
      cases x <;> first | exact ⟨_, _, rfl⟩ | cases h3
    · cases h
  | .ex e, st, h => by
    unfold mS at h
    split at h
    · rename_i x p
      simp only [Bool.and_eq_true] at h
      refine s_ex (sE he z.c e _ h.2) ?_
      have h1 := h.1
      cases x <;> first | rfl | cases h1
    · cases h
  | .ret e, st, h => by
    unfold mS at h
    split at h
    · simp only [Bool.and_eq_true] at h
      exact s_ret (sE he z.c e _ h.2)
    · cases h
  | .raise c es, st, h => by
    unfold mS at h
    split at h
    · rename_i x p r p2 p3
      simp only [Bool.and_eq_true, decide_eq_true_eq] at h
      obtain ⟨⟨⟨⟨⟨⟨h1, h2⟩, h3⟩, h4⟩, h5⟩, h6⟩, h7⟩ := h
      split at h6
      · split at h7
        · exact s_raise z h1 h2 h3 h4 h5
        · cases h7
      · cases h6
    · cases h
  | .ifs c a b, st, h => by
    unfold mS at h
    split at h
    · simp only [Bool.and_eq_true] at h
      obtain ⟨⟨⟨h1, h2⟩, h3⟩, h4⟩ := h
      exact s_if (sT he z.c c _ h2) (sSs he z a _ h3) (sSs he z b _ h4)
    · cases h
  | .whl c b, st, h => by
    unfold mS at h
    split at h
    · simp only [Bool.and_eq_true] at h
      obtain ⟨⟨h1, h2⟩, h3⟩ := h
      exact s_whl z (sT he z.c c _ h2) (sSs he z b _ h3)
    · cases h
  | .for_ t r b, st, h => by
    unfold mS at h
    split at h
    · rename_i tg it y p
      simp only [Bool.and_eq_true] at h
      obtain ⟨⟨⟨⟨h1, h2⟩, h3⟩, h4⟩, h5⟩ := h
      exact s_for z h2 h3 (sR he z.c r _ tg h4 (h1t h1 h3)) (sSs he z b _ h5)
    · cases h
theorem sSs (he : ErrOk G d) (z : Sz G W d N sc E X) : ∀ (s : PSs) (st : List Stmt), mSs W N sc s st = true → L2.PSs X st (TSv G E (execs (run G.T d) s))
  | .nil, st, h => by
    unfold mSs at h
    cases st with
    | nil => exact ss_nil
    | cons _ _ => cases h
  | .cons a r, st, h => by
    unfold mSs at h
    cases st with
    | nil => cases h
    | cons s t =>
      simp only [Bool.and_eq_true] at h
      exact ss_cons (sS he z a _ h.1) (sSs he z r _ h.2)
end
end
end Pw
/-! Pw20: a def by its plain text. -/
namespace Pw
open PySem PySem.Spec PyProof.Rows L2
section
variable {G : Gr} {φ φ' η : List Addr} {H : Hp} {n : Nat}
mutual
theorem Rep.trim (e : φ'.take n = φ) : ∀ {p : PV} {v : V}, Rep G φ' η H p v → okV n p = true → Rep G φ η H p v
  | .non, _, h, _ => h
  | .bl _, _, h, _ => h
  | .int _, _, h, _ => h
  | .str _, _, h, _ => h
  | .tup xs, _, h, k => by
    obtain ⟨a, vs, e1, r, n1, n2, q⟩ := h
    exact ⟨a, vs, e1, r, fun z => n1 (List.mem_of_mem_take (e ▸ z)), n2, Reps.trim e q (by simpa [okV] using k)⟩
  | .lst xs, _, h, k => by
    obtain ⟨a, vs, e1, r, n1, n2, q⟩ := h
    exact ⟨a, vs, e1, r, fun z => n1 (List.mem_of_mem_take (e ▸ z)), n2, Reps.trim e q (by simpa [okV] using k)⟩
  | .ref m, _, h, k => by
    obtain ⟨a, e1, e2⟩ := h
    have k : m < n := by simpa [okV] using k
    exact ⟨a, by rw [← e, List.getElem?_take_of_lt k]; exact e1, e2⟩
  | .fn _, _, h, _ => h
  | .cls _, _, h, _ => h
  | .exn _ _, _, h, _ => h
  | .scr ns, _, h, k => by
    obtain ⟨a, e1, r⟩ := h
    exact ⟨a, e1, r.imp (fun ⟨r, n1, n2⟩ => ⟨r, fun z => n1 (List.mem_of_mem_take (e ▸ z)), n2⟩) id⟩
theorem Reps.trim (e : φ'.take n = φ) : ∀ {ps : List PV} {vs : List V}, Reps G φ' η H ps vs → okVs n ps = true → Reps G φ η H ps vs
  | [], _, h, _ => h
  | p :: ps, _, h, k => by
    obtain ⟨u, us, e1, r, q⟩ := h
    unfold okVs at k
    simp only [Bool.and_eq_true] at k
    exact ⟨u, us, e1, Rep.trim e r k.1, Reps.trim e q k.2⟩
end
theorem StRep.cut {S : PSt} (hs : StRep G φ' η H S) (e : φ'.take n = φ) (hn : n ≤ S.length) (k : (S.take n).all (okO n) = true) : StRep G φ η H (S.take n) := by
  refine ⟨hs.hid, ?_, ?_, fun m o a e1 e2 => ?_, hs.tabs⟩
  · rw [← e]; exact hs.nd.sublist (List.take_sublist _ _)
  · rw [← e, List.length_take, List.length_take, hs.len]
  · have hm : m < n := by
      have := (List.getElem?_eq_some_iff.mp e1).1
      rw [List.length_take] at this
      omega
    rw [List.getElem?_take_of_lt hm] at e1
    rw [← e, List.getElem?_take_of_lt hm] at e2
    have q := hs.objs m o a e1 e2
    have ko : okO n o = true := List.all_eq_true.mp k o (List.mem_of_getElem? (by rw [List.getElem?_take_of_lt hm]; exact e1))
    cases o with
    | lst xs => obtain ⟨vs, q1, q2⟩ := q; exact ⟨vs, q1, q2.trim e ko⟩
    | dct kvs => exact q
/-- the end of a def that keeps its own objects for itself -/
theorem post_fin {E : XK} {Q : VK} {S S' : PSt} {v : PV} {b : Bool} (hs : StRep G φ η H S) (hp : Post G (relV G) E φ η H Q (fin b S.length v S')) : ∀ φ' H' u, Ext φ φ' H H' → StRep G φ' η H' S' → Rep G φ' η H' v u → Q u H' := fun φ' H' u x hs' r => by
  unfold fin at hp
  by_cases hb : b = true
  · rw [if_pos hb] at hp
    by_cases hl : S'.length = S.length
    · rw [if_pos hl] at hp
      exact hp φ' H' u x hs' r
    · rw [if_neg hl] at hp
      obtain ⟨k, hp⟩ := post_if hp
      simp only [Bool.and_eq_true] at k
      obtain ⟨n1, e1, f1⟩ := x.pre
      have e : φ'.take S.length = φ := by rw [e1, ← hs.len, List.take_left]
      have hle : S.length ≤ S'.length := by rw [← hs.len, ← hs'.len, e1, List.length_append]; omega
      have x' : Ext φ φ H H' := ⟨⟨[], by simp, by simp⟩, x.keep, x.there⟩
      have hc := hs'.cut e hle k.2
      refine hp φ H' u x' hc ?_
      have key : Rep G φ' η H' v u → okV S.length v = true → Rep G φ η H' v u := fun r k => r.trim e k
      cases v with
      | ref m =>
        have k1 := k.1
        simp only [fz] at k1 ⊢
        by_cases hm : m < S.length
        · rw [if_pos hm] at k1 ⊢
          exact key r k1
        · rw [if_neg hm] at k1 ⊢
          split at k1
          · rename_i xs hx
            obtain ⟨a, q1, q2⟩ := r
            obtain ⟨us, q3, q4⟩ := hs'.objs m _ a hx q1
            have hna : a ∈ n1 := by
              rw [e1, List.getElem?_append_right (by rw [hs.len]; omega)] at q1
              exact List.mem_of_getElem? q1
            have hnone := f1 a hna
            refine ⟨a, us, q2, q3, fun z => ?_, fun z => ?_, q4.trim e (by simpa [okV] using k1)⟩
            · obtain ⟨o, w, t⟩ := hs.mem z
              exact hnone o w t
            · obtain ⟨o, w, t⟩ := hs.hid a z
              exact hnone o w t
          · exact key r k1
      | _ => exact key r k.1
  · rw [if_neg hb] at hp
    exact hp φ' H' u x hs' r
theorem post_finX {E : XK} {Q : VK} {S S' : PSt} {c : XC} {vs : List PV} {b : Bool} (hs : StRep G φ η H S) (hp : Post G (relV G) E φ η H Q (finX b S.length c vs S')) : ∀ φ' H' cls od, Ext φ φ' H H' → StRep G φ' η H' S' → XRep G φ' η H' c vs cls od → E cls od H' := fun φ' H' cls od x hs' r => by
  unfold finX at hp
  by_cases hb : b = true
  · rw [if_pos hb] at hp
    by_cases hl : S'.length = S.length
    · rw [if_pos hl] at hp
      exact hp φ' H' cls od x hs' r
    · rw [if_neg hl] at hp
      obtain ⟨k, hp⟩ := post_if hp
      simp only [Bool.and_eq_true] at k
      obtain ⟨n1, e1, f1⟩ := x.pre
      have e : φ'.take S.length = φ := by rw [e1, ← hs.len, List.take_left]
      have hle : S.length ≤ S'.length := by rw [← hs.len, ← hs'.len, e1, List.length_append]; omega
      exact hp φ H' cls od ⟨⟨[], by simp, by simp⟩, x.keep, x.there⟩ (hs'.cut e hle k.2) r
  · rw [if_neg hb] at hp
    exact hp φ' H' cls od x hs' r
theorem erep_some : ∀ {ps : List PV} {vs : List V} (k : Nat), Reps G φ η H ps vs → ERep G φ η H (ps.map some ++ List.replicate k none) (vs.map some ++ List.replicate k none) := fun {ps vs} k r => by
  refine ⟨by simp [r.length], fun i p e => ?_⟩
  by_cases hi : i < ps.length
  · rw [List.getElem?_append_left (by simpa using hi), List.getElem?_map] at e
    rw [List.getElem?_append_left (by rw [List.length_map, ← r.length]; exact hi), List.getElem?_map]
    cases q : ps[i]? with
    | none => rw [q] at e; cases e
    | some p' =>
      rw [q] at e
      cases e
      obtain ⟨v, e1, r1⟩ := r.get q
      exact ⟨v, by rw [e1]; rfl, r1⟩
  · rw [List.getElem?_append_right (by simpa using hi)] at e
    have := List.getElem?_eq_some_iff.mp e
    simp at this
end
section
variable {G : Gr} {W : Row} {d : Nat} {N ps : List PySem.Str} {E : XK}
theorem body_reads {f : F} {vs : List V} {H : Hp} {Q : VK} (hnat : (G.T f).nat = none) (hnl : N.length = (G.T f).nl) (h : spOf G (d + 1) f vs H Q E) : TSv G E (execs (run G.T d) (G.T f).body) { nx := fun _ H' => Q .non H', rt := Q } (L2.start N vs) H := by
  obtain ⟨φ, η, S, qs, hs, r, hp, hl⟩ := h
  have hp : Post G (relV G) E φ η H Q (run G.T (d + 1) f qs S) := hp
  unfold run at hp
  rw [if_pos hl, hnat] at hp
  have hp : Post G (relV G) E φ η H Q (runB (G.T f) (run G.T d) qs S) := hp
  unfold runB at hp
  refine ⟨φ, η, qs.map some ++ List.replicate ((G.T f).nl - (G.T f).np) none, S, hs, ?_, ?_⟩
  · have q := erep_some (G := G) (η := η) ((G.T f).nl - (G.T f).np) r
    unfold L2.start
    rw [← r.length, hnl, hl]
    exact q
  · cases q : execs (run G.T d) (G.T f).body (qs.map some ++ List.replicate ((G.T f).nl - (G.T f).np) none) S with
    | ok fl S' =>
      rw [q] at hp
      intro φ' H' u x hs' ru
      cases fl with
      | nx ρ' =>
        cases u with
        | inl σ' => exact post_fin hs hp φ' H' .non x hs' rfl
        | inr u => exact False.elim ru
      | ret v =>
        cases u with
        | inl σ' => exact False.elim ru
        | inr u => exact post_fin hs hp φ' H' u x hs' ru
    | exc c ws S' =>
      rw [q] at hp
      exact fun φ' H' cls od x hs' xr => post_finX hs hp φ' H' cls od x hs' xr
    | err => rw [q] at hp; exact hp
/-- what a def's own row must say -/
theorem def_ok (he : ErrOk G d) (tab : Tab G W d) {f : F} {x qual : PySem.Str} {params : Arguments} {body : List Stmt} {sc : Scope} {a : Addr} {fd : FuncData} {kws : List (PySem.Str × V)} (Fd : FunD G.K x qual params body sc [] kws a fd) (S : FnScope N ps sc) (hnat : (G.T f).nat = none) (hnp : ps.length = (G.T f).np) (hnl : N.length = (G.T f).nl) (hm : mSs W N sc (G.T f).body body = true)
    (hcod : W.lam = true ∨ ∀ (oc : Value) (od : Option Addr) (dV kV doc pm cdv ct : Value) (an : Option Addr) (osl : Array (Option Value)), fd = PySem.W.fnOf x qual params body sc dV kV doc pm an cdv ct → G.K.lookup a = some ⟨oc, od, .func fd, osl⟩ → CodOk G cdv (qual ++ ".<locals>.")) :
    FnOk G.P G.w G.K G.mg G.base (L2N.CX G.P G.w) (4 * (d + 1)) a fd ps (spOf G (d + 1) f) := by
  obtain ⟨oc, od, dV, kV, doc, pm, an, cdv, ct, osl, e0, lk, hcd, _, _⟩ := Fd.ex
  subst e0
  have hcod' : W.lam = true ∨ CodOk G cdv (qual ++ ".<locals>.") := by
    rcases hcod with h | h
    · exact .inl h
    · exact .inr (h oc od dV kV doc pm cdv ct an osl rfl lk)
  refine fn_of (k := 4 * d + 3) lk hcd S (fun vs H Q E h => ?_) fun A outer s H vs Q E hr h => ?_
  · obtain ⟨φ, η, S', qs, _, r, _, hl⟩ := h
    rw [← r.length, hl, hnp]
  · have tk : L2N.Takes (cxOf (L2N.CX G.P G.w) G.P G.w G.K G.mg G.base N qual sc a cdv A outer s H E) (fun cls d _ H => E cls d H) := L2N.takes_of rfl rfl rfl rfl
    have hroom : Room (4 * d + if W.lam = true then 1 else 3) (A.deeper (envOfC qual sc s.heap.objs.size a cdv)) := by
      refine Room.mono hr ?_
      split <;> omega
    have c : Cz G W d N sc E (cxOf (L2N.CX G.P G.w) G.P G.w G.K G.mg G.base N qual sc a cdv A outer s H E) := by
      constructor
      case hP => rfl
      case hw => rfl
      case hK => rfl
      case hmg => rfl
      case hb => rfl
      case hN => rfl
      case nd => exact S.nd
      case hsc => rfl
      case kind => exact S.kind
      case calm => rfl
      case room => exact hroom
      case pass => exact L2N.passes_call tk fun _ _ _ _ h => h
      case tab => exact tab
      case cod => exact hcod'
    have own : PassesOwn (model G.P G.w) (A.deeper (envOfC qual sc s.heap.objs.size a cdv)) (envOfC qual sc s.heap.objs.size a cdv) (cxOf (L2N.CX G.P G.w) G.P G.w G.K G.mg G.base N qual sc a cdv A outer s H E).xe :=
      passes_of (X := cxOf (L2N.CX G.P G.w) G.P G.w G.K G.mg G.base N qual sc a cdv A outer s H E) (K := fun e s'' => L2N.CX G.P G.w outer H s E e s'') (E₁ := fun e' s'' => L2N.CX G.P G.w outer H s E e' s'') rfl
    have z : Sz G W d N sc E (cxOf (L2N.CX G.P G.w) G.P G.w G.K G.mg G.base N qual sc a cdv A outer s H E) := ⟨c, own, tk, fun _ => rfl⟩
    have hss := sSs he z (G.T f).body body hm
    have hb := body_reads hnat hnl h
    exact ⟨TSv G E (execs (run G.T d) (G.T f).body), hss, hb⟩
end
end Pw
/-! Pw21: zip of two lists where an exception is handled. -/
namespace Pw
open PySem PySem.Spec PyProof.Rows L2
section
variable {prog : Program} {w : World} {A : Around} {E : Value → Shared → Prop} {s : Shared}
theorem list_end_hot {it l x1 : Addr} {i : Nat} {items : Array Value} {Q : Value → Shared → Prop} (hot : HotX.HotAt A x1 s.heap) (hne : x1 ≠ it)
    (hit : s.heap.IsListIter it l i) (hl : s.heap.IsList l items) (hx : items[i]? = none)
    (hE : ∀ h' e, Heap.ExtBut it s.heap h' → (∃ o, h'.get? e = some o ∧ o.cls = .type "StopIteration") → E (.ref e) { s with heap := h' }) :
    wpAny (model prog w) A (Builtin.SmallTypes.nextOf (.ref it)) Q E s := by
  obtain ⟨o, eo, co, dd⟩ := id hit
  obtain ⟨ol, el, _, nl, dl⟩ := hl
  obtain ⟨hh, o1, vs1, e1, d1, c1⟩ := hot
  unfold Builtin.SmallTypes.nextOf
  refine wpAny_bind (wpAny_callSpecial?_slot (name := Str.ofString "__next__") hit.typeIs slot_listiter_next
    (wpAny_call_entry slot_listiter_next hit.typeIs entry_listiter_next ?_ (args_listiter_next _)))
  show wpAny _ _ (field (.ref it) 0 >>= _) _ _ s
  refine wpAny_bind (wpAny_field eo dd (x := .ref l) rfl ?_)
  show wpAny _ _ (if (Value.ref l == Value.none) = true then _ else _) _ _ s
  rw [if_neg (show ¬ ((Value.ref l == Value.none) = true) from Bool.false_ne_true)]
  show wpAny _ _ (field (.ref it) 1 >>= _) _ _ s
  refine wpAny_bind (wpAny_field eo dd (x := .int i 0) rfl ?_)
  show wpAny _ _ (seqItems? (.ref l) >>= _) _ _ s
  refine wpAny_bind (wpAny_seqItems el dl ?_)
  simp only [Int.toNat_natCast, hx]
  refine wpAny_bind (wpAny_rule (wpAny_bind (wpAny_setField eo dd (by simp) ?_)))
  show wpAny _ _ (newExc (.type "StopIteration") [] >>= _) _ _ _
  refine wpAny_bind ?_
  simp only [newExc, newTuple]
  refine wpAny_bind (wpAny_newObj_type ?_ (by size_fits))
  refine wpAny_bind (m := firstArgMember _ _) (wpAny_of_eq (a := Value.none) (by first | rfl | (simp only [firstArgMember]; rfl)) ?_)
  refine wpAny_newObj_type ?_ (by size_fits)
  have k1 : (s.heap.update it (Obj.mapFields (·.setIfInBounds 0 Value.none))).get? x1 = some o1 := (Heap.get?_update_other _ _ (Ne.symm hne)).trans e1
  refine HotX.raiseNew_hot ⟨hh, o1, vs1, Heap.get?_push_of_some _ (Heap.get?_push_of_some _ k1), d1, c1⟩ (Nat.ne_of_lt (Heap.lt_size (Heap.get?_push_of_some _ k1))) (Heap.get?_push_size _ rfl) rfl (by first | (simp; done) | (simp; omega) | (simp only [Array.size_append]; simp; omega)) ?_
  refine hE _ _ (fun b u hb e => ?_) ⟨_, Heap.get?_update_self _ (Heap.get?_push_size _ rfl) rfl, rfl⟩
  have k2 : (s.heap.update it (Obj.mapFields (·.setIfInBounds 0 Value.none))).get? b = some u := (Heap.get?_update_other _ _ (Ne.symm hb)).trans e
  rw [Heap.get?_update_other _ _ (Nat.ne_of_gt (Heap.lt_size (Heap.get?_push_of_some _ k2)))]
  exact Heap.get?_push_of_some _ (Heap.get?_push_of_some _ k2)
end
/-- the exception that is handled, in the heap -/
def HotO (x1 : Addr) (h : Heap) : Prop := ∃ (o : Obj) (vs : Array Value), h.get? x1 = some o ∧ o.data = .fields vs ∧ vs[2]? = some .none
theorem HotO.keep {x1 : Addr} {h h' : Heap} (x : HotO x1 h) (k : ∀ o, h.get? x1 = some o → h'.get? x1 = some o) : HotO x1 h' := by
  obtain ⟨o, vs, e, r⟩ := x
  exact ⟨o, vs, k o e, r⟩
theorem drawsH {prog : Program} {w : World} {A : Around} {x1 : Addr} (hh : A.handled = some (.ref x1)) (it l : Addr) (hne : l ≠ it) (hx : x1 ≠ it) (items : Array Value) :
    Draws prog w A it [it, l, x1] items.size (fun i v => items[i]? = some v) (fun i h => h.IsListIter it l i ∧ h.IsList l items ∧ HotO x1 h) where
  live := fun _ _ st => by
    obtain ⟨⟨o, e, _⟩, _⟩ := st
    exact ⟨o, e⟩
  frame := fun _ _ _ st k => ⟨st.1.at fun o e => k it (by simp) o e, st.2.1.at fun o e => k l (by simp) o e, st.2.2.keep fun o e => k x1 (by simp) o e⟩
  item := fun i s Q E hi st hQ => by
    refine wpAny_nextOf_list_item st.1 st.2.1 (x := items[i]) (by simp [hi]) fun h' a1 a2 => ?_
    exact hQ items[i] h' s.toks (by simp [hi]) ⟨a1, st.2.1.extBut a2.extBut hne, st.2.2.keep fun o e => a2.extBut _ _ hx e⟩ a2
  done := fun s Q E st hE => list_end_hot ⟨hh, st.2.2⟩ hx st.1 st.2.1 (by simp) hE
theorem sep_hot {n a b x1 : Nat} (ha : a < n) (hb : b < n) (hx : x1 < n) : ZipSep2 (n + 4) (n + 2) (n + 3) n (n + 1) [n, a, x1] [n + 1, b, x1] := by
  constructor
  all_goals first
    | exact List.mem_cons_self
    | (show @Ne Nat _ _; omega)
    | (intro h
       simp only [List.mem_cons, List.not_mem_nil, or_false] at h
       rcases h with h | h | h <;> (replace h : @Eq Nat _ _ := h; omega))
/-- the state of the zip's own objects -/
def ZipSt (n a b : Nat) (i : Nat) (h : Heap) : Prop := IsZip h (n + 4) (n + 2) (n + 3) .none ∧ IsTupOf2 h (n + 2) (.ref n) (.ref (n + 1)) ∧ (∃ a1 a2, IsTupOf2 h (n + 3) a1 a2) ∧ h.IsListIter n a i ∧ h.IsListIter (n + 1) b i
theorem ZipSt.obj {n a b i : Nat} {h : Heap} (st : ZipSt n a b i h) : ∀ c ∈ [n + 4, n + 2, n + 3, n, n + 1], ∃ o, h.get? c = some o ∧ ∀ v, o.data ≠ .cell v := fun c hc => by
  obtain ⟨e1, e2, ⟨_, _, e3⟩, ⟨o4, e4, _, d4⟩, ⟨o5, e5, _, d5⟩⟩ := st
  have e' : c = n + 4 ∨ c = n + 2 ∨ c = n + 3 ∨ c = n ∨ c = n + 1 := by simpa using hc
  rcases e' with q | q | q | q | q
  · rw [q]; exact ⟨_, e1, fun v z => nomatch z⟩
  · rw [q]; exact ⟨_, e2, fun v z => nomatch z⟩
  · rw [q]; exact ⟨_, e3, fun v z => nomatch z⟩
  · rw [q]; exact ⟨o4, e4, fun v z => by rw [d4] at z; cases z⟩
  · rw [q]; exact ⟨o5, e5, fun v z => by rw [d5] at z; cases z⟩
theorem ZipSt.keep {n a b i : Nat} {h h' : Heap} (st : ZipSt n a b i h) (k : ∀ c ∈ [n + 4, n + 2, n + 3, n, n + 1], ∀ o, h.get? c = some o → h'.get? c = some o) : ZipSt n a b i h' := by
  obtain ⟨e1, e2, ⟨u, v, e3⟩, e4, e5⟩ := st
  exact ⟨k _ (by simp) _ e1, k _ (by simp) _ e2, ⟨u, v, k _ (by simp) _ e3⟩, e4.at fun o e => k n (by simp) o e, e5.at fun o e => k (n + 1) (by simp) o e⟩
section
variable {Y : Cx} {pins : List (Addr × Obj)} {σ : L2.St} {H : Hp} {s : Shared} {n a b x1 i : Nat} {xs ys : List V} {E : Value → Shared → Prop} {elts : List Expr} {kk : Nat} {tpos : Pos}
theorem zip_item (ha : a < n) (hb : b < n) (hx1 : x1 < n) (hh : Y.A.handled = some (.ref x1)) (I : L2.Inv Y pins σ H s) (hot : HotO x1 s.heap) (hf : ∀ c ∈ [n + 4, n + 2, n + 3, n, n + 1], FpOk Y pins H c) (st : ZipSt n a b i s.heap) (hqx : SqL Y.K H a xs) (hqy : SqL Y.K H b ys) {x y : V} (hx : xs[i]? = some x) (hy : ys[i]? = some y) :
    wpAny (model Y.prog Y.w) Y.A (pyNext (.ref (n + 4))) (fun r s1 => ∃ u, r = some u ∧ wpAny (model Y.prog Y.w) Y.A (letOwnedTupleGo (.Tuple elts kk tpos) (.ref (n + 4)) u) (fun _ s2 => ∃ T, L2.Inv Y pins σ (upd H T (.tup [x, y])) s2 ∧ u = .ref T ∧ H T = none ∧ ZipSt n a b (i + 1) s2.heap ∧ ∀ c ∈ [n + 4, n + 2, n + 3, n, n + 1], upd H T (.tup [x, y]) c = none) E s1) E s := by
  obtain ⟨hz, hTI, hTO, h1, h2⟩ := st
  obtain ⟨its, rv, p, _⟩ := I.list hqx
  obtain ⟨its2, rv2, p2, _⟩ := I.list hqy
  have hi1 : i < its.length := by rw [← rv.length]; exact (List.getElem?_eq_some_iff.mp hx).1
  have hi2 : i < its2.length := by rw [← rv2.length]; exact (List.getElem?_eq_some_iff.mp hy).1
  have D1 := drawsH (prog := Y.prog) (w := Y.w) (A := Y.A.in1) hh n a (Nat.ne_of_lt ha) (Nat.ne_of_lt hx1) its.toArray
  have D2 := drawsH (prog := Y.prog) (w := Y.w) (A := Y.A.in1) hh (n + 1) b (Nat.ne_of_lt (Nat.lt_succ_of_lt hb)) (Nat.ne_of_lt (Nat.lt_succ_of_lt hx1)) its2.toArray
  refine (GoesN.zip2 (sep_hot ha hb hx1) D1 D2).goes i s _ E (by simp; omega) ⟨hz, hTI, hTO, ⟨h1, p.isList, hot⟩, ⟨h2, p2.isList, hot⟩⟩ fun v h' tk hY hst hk ht => ?_
  obtain ⟨T, u, u2, ev, hT, hu, hu2, hI⟩ := hY
  obtain ⟨z', TI', TO', ⟨h1', _⟩, ⟨h2', _⟩⟩ := hst
  obtain ⟨q, hq, ru⟩ := rv.get hx
  obtain ⟨q2, hq2, ru2⟩ := rv2.get hy
  have e1 : u = q := by
    have : its.toArray[i]? = some q := by simpa using hq
    rw [this] at hu; cases hu; rfl
  have e2 : u2 = q2 := by
    have : its2.toArray[i]? = some q2 := by simpa using hq2
    rw [this] at hu2; cases hu2; rfl
  subst e1 e2 ev
  have new : ObjOk Y.prog Y.w (upd H T (.tup [x, y])) h' T (.tup [x, y]) := ⟨by show 2 ≤ sizeLine; decide, [u, u2], .cons ru (.cons ru2 .nil), hI⟩
  have hf' : ∀ c ∈ [n + 4, n + 3, n, n + 1], FpOk Y pins H c := fun c hc' => hf c (by
    simp only [List.mem_cons, List.not_mem_nil, or_false] at hc' ⊢
    rcases hc' with z | z | z | z <;> simp [z])
  refine ⟨T, I.turnedNew (t' := tk) (ch := [n + 4, n + 3, n, n + 1]) hk hf' hT new, rfl, I.hok.fresh hT, ⟨z', TI', TO', h1', h2'⟩, fun c hcm => ?_⟩
  have hlt : c < s.heap.objs.size := by
    have e' : c = n + 4 ∨ c = n + 2 ∨ c = n + 3 ∨ c = n ∨ c = n + 1 := by simpa using hcm
    have hz2 : (n + 4 : Nat) < s.heap.objs.size := Heap.lt_size hz
    rcases e' with q | q | q | q | q <;> (rw [q]; show (_ : Nat) < _; omega)
  rw [upd_ne (Nat.ne_of_lt (Nat.lt_of_lt_of_le hlt hT))]
  exact (hf c hcm).1
theorem zip_done (ha : a < n) (hb : b < n) (hx1 : x1 < n) (hh : Y.A.handled = some (.ref x1)) (I : L2.Inv Y pins σ H s) (hot : HotO x1 s.heap) (hf : ∀ c ∈ [n + 4, n + 2, n + 3, n, n + 1], FpOk Y pins H c) (st : ZipSt n a b i s.heap) (hqx : SqL Y.K H a xs) (hqy : SqL Y.K H b ys) (hend : i = min xs.length ys.length) :
    wpAny (model Y.prog Y.w) Y.A (pyNext (.ref (n + 4))) (fun r s1 => r = none ∧ L2.Inv Y pins σ H s1) E s := by
  obtain ⟨hz, hTI, hTO, h1, h2⟩ := st
  obtain ⟨its, rv, p, _⟩ := I.list hqx
  obtain ⟨its2, rv2, p2, _⟩ := I.list hqy
  have D1 := drawsH (prog := Y.prog) (w := Y.w) (A := Y.A.in1) hh n a (Nat.ne_of_lt ha) (Nat.ne_of_lt hx1) its.toArray
  have D2 := drawsH (prog := Y.prog) (w := Y.w) (A := Y.A.in1) hh (n + 1) b (Nat.ne_of_lt (Nat.lt_succ_of_lt hb)) (Nat.ne_of_lt (Nat.lt_succ_of_lt hx1)) its2.toArray
  have en : min its.toArray.size its2.toArray.size = i := by rw [hend, rv.length, rv2.length]; simp
  have st : IsZip s.heap (n + 4) (n + 2) (n + 3) .none ∧ IsTupOf2 s.heap (n + 2) (.ref n) (.ref (n + 1)) ∧ (∃ a1 a2, IsTupOf2 s.heap (n + 3) a1 a2) ∧ (s.heap.IsListIter n a i ∧ s.heap.IsList a its.toArray ∧ HotO x1 s.heap) ∧ (s.heap.IsListIter (n + 1) b i ∧ s.heap.IsList b its2.toArray ∧ HotO x1 s.heap) := ⟨hz, hTI, hTO, ⟨h1, p.isList, hot⟩, ⟨h2, p2.isList, hot⟩⟩
  rw [← en] at st
  refine (GoesN.zip2 (elts := []) (x1 := 0) (pos := ⟨0, 0, 0, 0⟩) (sep_hot ha hb hx1) D1 D2).stops s _ E st fun h' tk hk ht => ?_
  have hf' : ∀ c ∈ [n + 4, n + 3, n, n + 1], FpOk Y pins H c := fun c hc' => hf c (by
    simp only [List.mem_cons, List.not_mem_nil, or_false] at hc' ⊢
    rcases hc' with z | z | z | z <;> simp [z])
  exact I.turnedL (t' := tk) (ch := [n + 4, n + 3, n, n + 1]) hk hf'
end
end Pw
/-! Pw22: a list comprehension over zip where an exception is handled. -/
namespace Pw
open PySem PySem.Spec PyProof.Rows L2
section
variable {prog : Program} {w : World} {A : Around} {E : Value → Shared → Prop} {s : Shared}
theorem tup_end_hot {it l x1 : Addr} {i : Nat} {items : Array Value} {Q : Option Value → Shared → Prop} (hot : HotX.HotAt A x1 s.heap) (hne : x1 ≠ it)
    (hit : IsTupIter s.heap it l i) (hl : IsTup s.heap l items) (hx : items[i]? = none)
    (hQ : ∀ h', Heap.ExtBut it s.heap h' → Q none { s with heap := h' }) :
    wpAny (model prog w) A (pyNext (.ref it)) Q E s := by
  obtain ⟨o, eo, co, dd⟩ := id hit
  obtain ⟨ol, el, _, nl, dl⟩ := hl
  obtain ⟨hh, o1, vs1, e1, d1, c1⟩ := hot
  unfold pyNext
  refine wpAny_bind (wpAny_attempt (wpAny_callSpecial?_slot (name := Str.ofString "__next__") hit.typeIs slot_tupleiter_next
    (wpAny_call_entry slot_tupleiter_next hit.typeIs entry_tupleiter_next ?_ (args_tupleiter_next _))))
  show wpAny _ _ (field (.ref it) 0 >>= _) _ _ s
  refine wpAny_bind (wpAny_field eo dd (x := .ref l) rfl ?_)
  show wpAny _ _ (if (Value.ref l == Value.none) = true then _ else _) _ _ s
  rw [if_neg (show ¬ ((Value.ref l == Value.none) = true) from Bool.false_ne_true)]
  show wpAny _ _ (field (.ref it) 1 >>= _) _ _ s
  refine wpAny_bind (wpAny_field eo dd (x := .int i 0) rfl ?_)
  show wpAny _ _ (seqItems? (.ref l) >>= _) _ _ s
  refine wpAny_bind (wpAny_seqItems el dl ?_)
  simp only [Int.toNat_natCast, hx]
  refine wpAny_bind (wpAny_rule (wpAny_bind (wpAny_setField eo dd (by simp) ?_)))
  show wpAny _ _ (newExc (.type "StopIteration") [] >>= _) _ _ _
  refine wpAny_bind ?_
  simp only [newExc, newTuple]
  refine wpAny_bind (wpAny_newObj_type ?_ (by size_fits))
  refine wpAny_bind (m := firstArgMember _ _) (wpAny_of_eq (a := Value.none) (by first | rfl | (simp only [firstArgMember]; rfl)) ?_)
  refine wpAny_newObj_type ?_ (by size_fits)
  have k1 : (s.heap.update it (Obj.mapFields (·.setIfInBounds 0 Value.none))).get? x1 = some o1 := (Heap.get?_update_other _ _ (Ne.symm hne)).trans e1
  refine HotX.raiseNew_hot ⟨hh, o1, vs1, Heap.get?_push_of_some _ (Heap.get?_push_of_some _ k1), d1, c1⟩ (Nat.ne_of_lt (Heap.lt_size (Heap.get?_push_of_some _ k1))) (Heap.get?_push_size _ rfl) rfl (by first | (simp; done) | (simp; omega) | (simp only [Array.size_append]; simp; omega)) ?_
  refine wpAny_bind (wpAny_isInstance (T := "StopIteration") (b := true) ⟨_, Heap.get?_update_self _ (Heap.get?_push_size _ rfl) rfl, rfl⟩ isSubtype_stop ?_)
  refine wpAny_pure (hQ _ fun b u hb e => ?_)
  have k2 : (s.heap.update it (Obj.mapFields (·.setIfInBounds 0 Value.none))).get? b = some u := (Heap.get?_update_other _ _ (Ne.symm hb)).trans e
  rw [Heap.get?_update_other _ _ (Nat.ne_of_gt (Heap.lt_size (Heap.get?_push_of_some _ k2)))]
  exact Heap.get?_push_of_some _ (Heap.get?_push_of_some _ k2)
theorem unpack_hot {t x1 : Addr} {items : Array Value} {Q : List Value → Shared → Prop} (hot : HotX.HotAt A x1 s.heap) (ht : IsTup s.heap t items)
    (hQ : ∀ h', Heap.ExtBut s.heap.objs.size s.heap h' → Q items.toList { s with heap := h' }) : wpAny (model prog w) A (unpackItems (.ref t) items.size none) Q E s := by
  have hlt : t ≠ s.heap.objs.size := by obtain ⟨o, eo, _⟩ := ht; exact Nat.ne_of_lt (Heap.lt_size eo)
  obtain ⟨hh, ho1⟩ := hot
  have hx1 : x1 ≠ s.heap.objs.size := by obtain ⟨o, _, eo, _⟩ := ho1; exact Nat.ne_of_lt (Heap.lt_size eo)
  unfold unpackItems
  refine wpAny_bind ?_
  unfold notIterableAtAll
  refine wpAny_bind (wpAny_specialOf ht.typeIs slot_tuple_iter.lookup ?_)
  refine wpAny_pure ?_
  simp only [Bool.false_eq_true, if_false]
  refine wpAny_bind (wpAny_holding (iter_tuple ht ?_))
  refine wpAny_bind (wpAny_holding (draw_tuple hlt items.size 0 _ _ ⟨_, Heap.get?_push_size _ rfl, rfl, rfl⟩ (ht.push _) (by omega) fun h1 it1 s1 => ?_))
  have hall : List.take items.size (List.drop 0 items.toList) = items.toList := by
    rw [List.drop_zero]; exact List.take_of_length_le (by simp)
  rw [hall, if_neg (by simp)]
  have t1 : IsTup h1 t items := (ht.push _).extBut s1.extBut hlt
  have o1 : HotO x1 h1 := HotO.keep (h := s.heap) ho1 fun o e => s1.extBut _ _ hx1 (Heap.get?_push_of_some _ e)
  refine wpAny_bind (wpAny_holding (tup_end_hot ⟨hh, o1⟩ hx1 it1 t1 (by simp) fun h2 he2 => ?_))
  simp only [Option.isSome_none, Bool.false_eq_true, if_false]
  exact wpAny_pure (hQ h2 fun b o hb e => he2 b o hb (s1.extBut b o hb (Heap.get?_push_of_some _ e)))
theorem assign_hot {env : PySem.Env} {elts : List Expr} {k} {pos : Pos} {t x1 : Addr} {items : Array Value} {Q : Unit → Shared → Prop} (hot : HotX.HotAt A x1 s.heap) (ht : IsTup s.heap t items)
    (hn : (assignEach elts env).length = items.size) (hstar : (assignEach elts env).findIdx? (·.1) = none)
    (h : ∀ h', Heap.ExtBut s.heap.objs.size s.heap h' → wpAny (model prog w) A (assignInOrder ((assignEach elts env).map (·.2)) items.toList) Q E { s with heap := h' }) :
    wpAny (model prog w) A (assign (.Tuple elts k pos) env (.ref t)) Q E s := by
  rw [assign_Tuple]
  refine wpAny_bind (wpAny_standAt ?_)
  unfold unpack
  rw [hn, hstar]
  exact wpAny_bind (wpAny_holding (unpack_hot hot ht h))
end
/-- the words whose mark is true -/
def selW : List PySem.Str → List Bool → List PySem.Str
  | x :: xs, g :: gs => if g = true then x :: selW xs gs else selW xs gs
  | _, _ => []
theorem selW_snoc : ∀ (xs : List PySem.Str) (gs : List Bool) (i : Nat) (x : PySem.Str) (g : Bool), xs[i]? = some x → gs[i]? = some g → selW (xs.take (i + 1)) (gs.take (i + 1)) = selW (xs.take i) (gs.take i) ++ if g = true then [x] else []
  | [], _, _, _, _, h, _ => by simp at h
  | _ :: _, [], _, _, _, _, h => by simp at h
  | x :: xs, g :: gs, 0, _, _, h, h' => by
    simp at h h'
    subst h h'
    cases g <;> simp [selW]
  | x :: xs, g :: gs, i + 1, y, k, h, h' => by
    have ih := selW_snoc xs gs i y k (by simpa using h) (by simpa using h')
    rw [List.take_succ_cons, List.take_succ_cons, List.take_succ_cons, List.take_succ_cons]
    unfold selW
    rw [ih]
    cases g <;> simp
theorem selW_len : ∀ (xs : List PySem.Str) (gs : List Bool), (selW xs gs).length ≤ xs.length
  | [], _ => by simp [selW]
  | _ :: _, [] => by simp [selW]
  | x :: xs, g :: gs => by
    have := selW_len xs gs
    unfold selW
    cases g
    · simp; omega
    · simp; omega
def tSelH (ta : TA) : TE := fun σ H Q => ta σ H fun vs H1 => ∃ (a b : Addr) (ws : List PySem.Str) (gs : List Bool), vs = [.ref a, .ref b] ∧ H1 a = some (.lst (ws.map .str)) ∧ H1 b = some (.lst (gs.map .bl)) ∧ ws.length = gs.length ∧ ws.length ≤ 1000 ∧
  ∀ (D : Addr) (H' : Hp), H1 D = none → H' D = some (.lst ((selW ws gs).map .str)) → (∀ c o, H1 c = some o → H' c = some o) → Q (.ref D) H'
section
variable {X : Cx}
theorem pe_selH {p : Addr × Obj} (hot : L2H.Hot1 X.A p) (hp : p ∈ X.pn) (hN : X.N.Nodup) {scope : Scope} {own : List (PySem.Str × Nat)} (ok : BlkOk X.N X.env.scope scope own) {wn gn : PySem.Str} {iw ig : Nat} (nw : X.N[iw]? = some wn) (ng : X.N[ig]? = some gn) (hne : iw ≠ ig) (ow : iw ∈ own.map (·.2)) (og : ig ∈ own.map (·.2))
    (lw : scope.names.lookup wn = some .local) (lg : scope.names.lookup gn = some .local) (dw : (wn == ("__debug__" : PySem.Str)) = false) (dg : (gn == ("__debug__" : PySem.Str)) = false) (cw : (wn == ("__classdict__" : PySem.Str)) = false) (cg : (gn == ("__classdict__" : PySem.Str)) = false)
    {e e2 : Expr} {ta : TA} {p1 p2 p3 p4 p5 p6 p7 pos : Pos} {kk : Nat} (hg : Gl X "zip") (hm : X.mg "zip" = none) (ha : PA X [e, e2] ta) (hs : starEach [e, e2] X.env = (false, eval e X.env) :: starEach [e2] X.env) (hpl : (backTo p2 (starEach [e2] X.env)).any (·.1) = false) :
    PE X (.ListComp (.Name wn p3) [⟨.Tuple [.Name wn p4, .Name gn p5] kk p6, .Call (.Name "zip" p1) [e, e2] [] p2, [.Name gn p7], 0⟩] scope pos) (tSelH ta) := by
  refine ⟨fun pins s σ H Q I h => ?_⟩
  rw [eval_ListComp]
  have hfree : ∀ y ∈ scope.names, y.2 = .free → ∃ c, X.env.cells.lookup y.1 = some c := fun y hy z => by
    rcases ok.free y hy z with k | k
    · exact I.ok.has _ (.inl k)
    · exact I.ok.has _ (.inr k)
  refine wpAny_comprehension_free (use := none) rfl (fun x => rfl) (closure_ok hfree) ok.kind (fun y hy z => by rw [ok.uniq y hy, z]) ?_
  refine Call_ (ld_blt I hg hm PyProof.Rows.boot_zip (PyProof.Rows.callWith_type1 (thn (ha.run p2 pins s σ H _ I h) fun us s1 ⟨vs, H1, I1, r1, q1⟩ => ?_) hs hpl))
  obtain ⟨a, b, ws, gs, ex, ea, eb, hlen, hle, fin⟩ := q1
  subst ex
  cases r1 with
  | cons r rr =>
  cases rr with
  | cons r' rr =>
  cases rr
  cases r
  cases r'
  have hqa : SqL X.K H1 a (ws.map .str) := .inl (.inl ea)
  have hqb : SqL X.K H1 b (gs.map .bl) := .inl (.inl eb)
  obtain ⟨its, rv, pa, _⟩ := I1.list hqa
  obtain ⟨its2, rv2, pb, _⟩ := I1.list hqb
  refine zip_begins2 (begins_list a its.toArray) (begins_list b its2.toArray) pa.isList pb.isList fun h' hz hTI hTO h1 h2 hsz hk => wpAny_pyIter_zip hz ?_
  have la : a < s1.heap.objs.size := pa.lt
  have lb : b < s1.heap.objs.size := pb.lt
  have P1 := I1.pin p (List.mem_append_left _ hp)
  have lx : p.1 < s1.heap.objs.size := Heap.lt_size P1.1
  generalize hn : s1.heap.objs.size = n at *
  have I2 : L2.Inv X pins σ H1 { s1 with heap := h' } := I1.kept (t' := s1.toks) hk
  have st2 : ZipSt n a b 0 h' := ⟨hz, hTI, ⟨_, _, hTO⟩, ⟨_, h1, rfl, rfl⟩, ⟨_, h2, rfl, rfl⟩⟩
  generalize hs2 : ({ s1 with heap := h' } : Shared) = s2 at I2 ⊢
  have eh2 : s2.heap = h' := by rw [← hs2]
  rw [← eh2] at st2 hsz
  have f2 : ∀ c ∈ [n + 4, n + 2, n + 3, n, n + 1], FpOk X pins H1 c := fun c hcm => by
    have e' : c = n + 4 ∨ c = n + 2 ∨ c = n + 3 ∨ c = n ∨ c = n + 1 := by simpa using hcm
    have hle : s1.heap.objs.size ≤ c := by
      rw [hn]
      rcases e' with z | z | z | z | z <;> (rw [z]; show @LE.le Nat _ _ _; omega)
    exact I1.fpOk hle (I1.hok.fresh hle)
  refine wpAny_newObj_type (newEnv_comp ?_) (by show 0 ≤ sizeLine; decide)
  generalize hD : s2.heap.objs.size = D
  have hDn : H1 D = none := I2.hok.fresh (Nat.le_of_eq hD)
  generalize hs3 : ({ s2 with heap := s2.heap.push { cls := .type "list", data := .seq ([] : List Value).toArray } } : Shared) = s3
  have eh3 : s3.heap = s2.heap.push { cls := .type "list", data := .seq ([] : List Value).toArray } := by rw [← hs3]
  have I3 : L2.Inv X pins σ (upd H1 D (.lst [])) s3 := by
    rw [← hs3]
    refine I2.laid (t' := s2.toks) (fun c o z => Heap.get?_push_of_some _ z) (Nat.le_of_eq hD) ⟨Nat.zero_le _, [], 0, .nil, ?_⟩
    rw [← hD]
    exact Heap.get?_push_size _ rfl
  generalize hfp : [n + 4, n + 2, n + 3, n, n + 1] = fp at f2
  have obj2 : ∀ c ∈ fp, ∃ o, s2.heap.get? c = some o ∧ ∀ v, o.data ≠ .cell v := by rw [← hfp]; exact st2.obj
  have f3 : ∀ c ∈ fp, FpOk X pins (upd H1 D (.lst [])) c ∧ c < s3.heap.objs.size := fun c hc => by
    obtain ⟨o, z, _⟩ := obj2 c hc
    have hlt := Heap.lt_size z
    refine ⟨⟨?_, (f2 c hc).2⟩, by rw [eh3, Heap.size_push]; exact Nat.lt_succ_of_lt hlt⟩
    rw [upd_ne (by rw [← hD]; exact Nat.ne_of_lt hlt)]
    exact (f2 c hc).1
  have st3 : ZipSt n a b 0 s3.heap := st2.keep fun c _ o z => by rw [eh3]; exact Heap.get?_push_of_some _ z
  have I4 := block_start I3 ok hN f3
  have P3 := I3.pin p (List.mem_append_left _ hp)
  show codeAny _ _ (.compStart (.ListComp (.Name wn p3) [⟨.Tuple [.Name wn p4, .Name gn p5] kk p6, .Call (.Name "zip" p1) [e, e2] [] p2, [.Name gn p7], 0⟩] scope pos) 0 (.ref (n + 4)) (.ref D) (compEnvC scope (cellsFrom (s3.heap.objs.size + 1) scope.names (cloFrom X.env.cells scope.names [])) s3.heap.objs.size X.env)) (compPost (model X.prog X.w) X.A X.xe none (EP X pins σ Q) (.ref D) s3.heap.objs.size) { s3 with heap := pushCells (s3.heap.push { cls := .type "dict", data := .dict #[] }) scope.names }
  have xes : (compEnvC scope (cellsFrom (s3.heap.objs.size + 1) scope.names (cloFrom X.env.cells scope.names [])) s3.heap.objs.size X.env).scope = relS scope X.env.scope := rfl
  generalize hce : compEnvC scope (cellsFrom (s3.heap.objs.size + 1) scope.names (cloFrom X.env.cells scope.names [])) s3.heap.objs.size X.env = ce at I4 xes ⊢
  have cL : ce.locals = s3.heap.objs.size := by subst hce; rfl
  generalize hH3 : upd H1 D (.lst []) = H3 at I3 I4 P3 f3
  generalize hs4 : ({ s3 with heap := pushCells (s3.heap.push { cls := .type "dict", data := .dict #[] }) scope.names } : Shared) = s4 at I4 ⊢
  have st4 : ZipSt n a b 0 s4.heap := st3.keep fun c _ o z => by rw [← hs4]; exact pushCells_keeps _ _ _ _ (Heap.get?_push_of_some _ z)
  generalize hY : X.blk s3 H3 scope ce fp = Y at I4
  have hotY : ∀ {pl : List (Addr × Obj)} {σ' : L2.St} {H' : Hp} {s' : Shared}, L2.Inv Y pl σ' H' s' → HotX.HotAt Y.A p.1 s'.heap := fun {pl σ' H' s'} I' => by
    subst hY
    obtain ⟨hh, v1, d1, c1⟩ := hot
    refine ⟨hh, p.2, v1, ?_, d1, c1⟩
    exact I'.base.keep p.1 p.2 P3.1 P3.2.1 (fun hm => (List.mem_cons.mp (I3.stkSub p.1 hm)).elim P3.2.2.1 P3.2.2.2.1) fun hm => (f3 p.1 hm).1.2.2.2.2.2 p (List.mem_append_left _ hp) rfl
  have hhY : Y.A.handled = some (.ref p.1) := by subst hY; exact hot.1
  have stat : ∀ {pl : List (Addr × Obj)} {σ' : L2.St} {H' : Hp} {s' : Shared}, (∀ q ∈ pl, False) → L2.Inv Y pl σ' H' s' → (∀ c ∈ fp, H' c = none) → ∀ c ∈ fp, FpOk Y pl H' c := fun {pl σ' H' s'} np I' hn' c hc => by
    subst hY
    exact ⟨hn' c hc, (I'.ok.exf c hc).1, I'.ok.exfs c hc, .inl hc, fun x cc z => (I'.ok.exf c hc).2 x cc z, fun q hq => absurd (List.mem_append.mp hq) (by rintro (z | z); exact absurd (show q ∈ ([] : List (Addr × Obj)) from z) (by simp); exact np q z)⟩
  have hKY : Y.K = X.K := by subst hY; rfl
  have nD : D ∉ fp := fun hc => by
    obtain ⟨o, z, _⟩ := obj2 D hc
    exact absurd (Heap.lt_size z) (by rw [hD]; exact Nat.lt_irrefl _)
  have h1D : ∀ c o, H1 c = some o → c ≠ D := fun c o z q => by rw [q, hDn] at z; cases z
  subst hY
  have loop : codeAny (model X.prog X.w) X.A (.compLoop (.ListComp (.Name wn p3) [⟨.Tuple [.Name wn p4, .Name gn p5] kk p6, .Call (.Name "zip" p1) [e, e2] [] p2, [.Name gn p7], 0⟩] scope pos) 0 (.ref (n + 4)) (.ref D) ce) (compPost (model X.prog X.w) X.A X.xe none (EP X pins σ Q) (.ref D) s3.heap.objs.size) s4 := by
    refine compLoop_any (fun m s' => ∃ i H', m = ws.length - i ∧ i ≤ ws.length ∧ L2.Inv (X.blk s3 H3 scope ce fp) [] (L2.wipe σ (own.map (·.2))) H' s' ∧ ZipSt n a b i s'.heap ∧ (∀ c ∈ fp, H' c = none) ∧ H' D = some (.lst ((selW (ws.take i) (gs.take i)).map .str)) ∧ (∀ c o, H1 c = some o → H' c = some o)) ?_ ws.length ⟨0, H3, rfl, Nat.zero_le _, I4, st4, fun c hc => (f3 c hc).1.1, by rw [← hH3, upd_same]; rfl, fun c o z => by rw [← hH3, upd_ne (h1D c o z)]; exact z⟩
    rintro m s5 ⟨i, H5, rfl, hi, I5, st5, n5, eD, k5⟩
    have qa : SqL X.K H5 a (ws.map .str) := .inl (.inl (k5 a _ ea))
    have qb : SqL X.K H5 b (gs.map .bl) := .inl (.inl (k5 b _ eb))
    by_cases hlt : i < ws.length
    · obtain ⟨x, hx⟩ : ∃ x, ws[i]? = some x := ⟨ws[i], by simp [hlt]⟩
      obtain ⟨g, hg2⟩ : ∃ g, gs[i]? = some g := ⟨gs[i]'(by omega), by simp [← hlen, hlt]⟩
      have ti := zip_item (E := fun _ _ => False) (elts := [.Name wn p4, .Name gn p5]) (kk := kk) (tpos := p6) la lb lx hhY I5 (hotY I5).2 (by rw [hfp]; exact stat (fun q hq => by cases hq) I5 n5) st5 qa qb (x := .str x) (y := .bl g) (by rw [List.getElem?_map, hx]; rfl) (by rw [List.getElem?_map, hg2]; rfl)
      refine thnF ti fun r s6 ⟨u, hr, h6⟩ => ?_
      subst hr
      refine thnF h6 fun _ s7 ⟨T, I7, eu, hT, st7, n7⟩ => ?_
      subst eu
      have lw' : (relS scope X.env.scope).names.lookup wn = some .local := lookup_relS_keep (sc := X.env.scope) (k := .local) (by decide) lw
      have lg' : (relS scope X.env.scope).names.lookup gn = some .local := lookup_relS_keep (sc := X.env.scope) (k := .local) (by decide) lg
      have lw2 : (X.blk s3 H3 scope ce fp).env.scope.names.lookup wn = some .local := by show ce.scope.names.lookup wn = _; rw [xes]; exact lw'
      have lg2 : (X.blk s3 H3 scope ce fp).env.scope.names.lookup gn = some .local := by show ce.scope.names.lookup gn = _; rw [xes]; exact lg'
      have pgs : PGs (X.blk s3 H3 scope ce fp) [.Name wn p4, .Name gn p5] (gCons (gName iw) (gCons (gName ig) gNil)) := pgs_cons (pg_name hN nw (.inl lw2) (.inr lw2)) (pgs_cons (pg_name hN ng (.inl lg2) (.inr lg2)) pgs_nil)
      obtain ⟨its7, rv7, pt7, _⟩ := I7.tuple (show SqT X.K (upd H5 T (.tup [.str x, .bl g])) T [.str x, .bl g] from .inl (.inl upd_same))
      have l7 : its7.length = 2 := rv7.length.symm
      have n7' : ∀ c ∈ fp, upd H5 T (.tup [.str x, .bl g]) c = none := by rw [← hfp]; exact n7
      have I7' := I7.pinned (stat (fun q hq => by cases hq) I7 n7') (by rw [← hfp]; exact st7.obj)
      refine assign_hot (hotY I7) pt7 (by rw [List.size_toArray, l7]; rfl) rfl fun h8 x8 => ?_
      have I8 := I7'.kept (h' := h8) (t' := s7.toks) fun c o z => x8 c o (Nat.ne_of_lt (Heap.lt_size z)) z
      rw [show its7.toArray.toList = its7 from by simp]
      have hw := wipe_wipe σ (own.map (·.2))
      refine thnF (pgs.run _ _ _ _ _ _ (fun σ' H' => σ' = ((L2.wipe σ (own.map (·.2))).set iw (some (.str x))).set ig (some (.bl g)) ∧ H' = upd H5 T (.tup [.str x, .bl g])) I8 rv7 ⟨_, _, rfl, _, _, rfl, rfl, rfl, rfl⟩) fun _ s9 ⟨σ9, H9, I9, eσ, eH⟩ => ?_
      have lenσ : (L2.wipe σ (own.map (·.2))).length = X.N.length := by rw [L2.wipe_length]; exact I.len
      have lw3 : iw < (L2.wipe σ (own.map (·.2))).length := by rw [lenσ]; exact (List.getElem?_eq_some_iff.mp nw).1
      have lg3 : ig < (L2.wipe σ (own.map (·.2))).length := by rw [lenσ]; exact (List.getElem?_eq_some_iff.mp ng).1
      have g9 : σ9[ig]? = some (some (.bl g)) := by rw [eσ, List.getElem?_set_self (by rw [List.length_set]; exact lg3)]
      have w9 : σ9[iw]? = some (some (.str x)) := by rw [eσ, List.getElem?_set_ne (Ne.symm hne), List.getElem?_set_self lw3]
      have kσ : ∀ (j : Nat) v, (L2.wipe σ (own.map (·.2)))[j]? = some (some v) → σ9[j]? = some (some v) := fun j v z => by
        obtain ⟨_, no⟩ := wipe_some z
        rw [eσ, List.getElem?_set_ne (fun (q : ig = j) => no (q ▸ og)), List.getElem?_set_ne (fun (q : iw = j) => no (q ▸ ow))]
        exact z
      have k9 : ∀ c o, H1 c = some o → H9 c = some o := fun c o z => by
        rw [eH, upd_ne (fun q => by rw [← q, k5 c o z] at hT; cases hT)]
        exact k5 c o z
      have TD : D ≠ T := fun q => by rw [← q, eD] at hT; cases hT
      have eD9 : H9 D = some (.lst ((selW (ws.take i) (gs.take i)).map .str)) := by rw [eH, upd_ne TD]; exact eD
      have sn := selW_snoc ws gs i x g hx hg2
      have finT : ∀ {s' : Shared} {H' : Hp}, L2.Inv (X.blk s3 H3 scope ce fp) ([] ++ pinsAt fp s7.heap) σ9 H' s' → H' D = some (.lst ((selW (ws.take (i + 1)) (gs.take (i + 1))).map .str)) → (∀ c o, H1 c = some o → H' c = some o) →
          ∃ m', m' < ws.length - i ∧ ∃ i H', m' = ws.length - i ∧ i ≤ ws.length ∧ L2.Inv (X.blk s3 H3 scope ce fp) [] (L2.wipe σ (own.map (·.2))) H' s' ∧ ZipSt n a b i s'.heap ∧ (∀ c ∈ fp, H' c = none) ∧ H' D = some (.lst ((selW (ws.take i) (gs.take i)).map .str)) ∧ (∀ c o, H1 c = some o → H' c = some o) := fun {s' H'} I' d' k' => by
        have pin' : ∀ c ∈ fp, ∀ o, s7.heap.get? c = some o → s'.heap.get? c = some o ∧ H' c = none := fun c hc o z =>
          let q := I'.pin (c, o) (List.mem_append_right _ (List.mem_append_right _ (mem_pinsAt hc z)))
          ⟨q.1, q.2.1⟩
        refine ⟨ws.length - (i + 1), by omega, i + 1, H', rfl, hlt, (I'.unpinned (pins := [])).weak (by rw [eσ, List.length_set, List.length_set]) kσ, st7.keep fun c hc o z => (pin' c (by rw [← hfp]; exact hc) o z).1, fun c hc => ?_, d', k'⟩
        obtain ⟨o, z, _⟩ := st7.obj c (by rw [hfp]; exact hc)
        exact (pin' c hc o z).2
      refine thnF ((pts_one (pt_val (pe_var (X := X.blk s3 H3 scope ce fp) (i := ig) (pos := p7) ng (.inl lg2) dg cg))).run _ s9 σ9 H9 (fun b H' => b = g ∧ H' = H9) I9 ⟨.bl g, g9, g, rfl, rfl, rfl⟩) fun bb s10 ⟨H10, I10, eb10, eH10⟩ => ?_
      subst eb10 eH10
      cases bb with
      | false =>
        rw [if_neg Bool.false_ne_true] at sn ⊢
        rw [List.append_nil] at sn
        exact finT I10 (by rw [sn]; exact eD9) k9
      | true =>
        rw [if_pos rfl] at sn ⊢
        refine thnF ((pe_var (X := X.blk s3 H3 scope ce fp) (i := iw) (pos := p3) nw (.inl lw2) dw cw).run _ s10 σ9 H10 (fun v H' => v = .str x ∧ H' = H10) I10 ⟨.str x, w9, rfl, rfl⟩) fun zv s11 ⟨yv, H11, I11, r11, ey, eH11⟩ => ?_
        subst ey eH11
        refine app_ok (X := X.blk s3 H3 scope ce fp) I11 eD9 ?_ r11 fun s12 I12 => finT I12 ?_ fun c o z => ?_
        · rw [List.length_map, sizeLine_eq]
          have := selW_len (ws.take i) (gs.take i)
          rw [List.length_take] at this
          omega
        · rw [upd_same, sn, List.map_append]
          rfl
        · rw [upd_ne (h1D c o z)]
          exact k9 c o z
    · have hi' : i = ws.length := by omega
      have td := zip_done (E := fun _ _ => False) la lb lx hhY I5 (hotY I5).2 (by rw [hfp]; exact stat (fun q hq => by cases hq) I5 n5) st5 qa qb (by rw [List.length_map, List.length_map, ← hlen, Nat.min_self]; exact hi')
      refine thnF td fun r s6 ⟨hr, I6⟩ => ?_
      subst hr
      rw [hi', List.take_length, hlen, List.take_length] at eD
      have nC : H5 s3.heap.objs.size = none := by
        have z : H5 ce.locals = none := I6.free
        rw [cL] at z
        exact z
      obtain ⟨m, hns, _⟩ := I6.loc
      have hns : s6.heap.Ns s3.heap.objs.size m := by
        have hns : s6.heap.Ns ce.locals m := hns
        rw [cL] at hns
        exact hns
      have I7 : L2.Inv X pins σ H5 s6 := by
        exact I3.call' (ch := fp) I6.os I6.base I6.hok I6.bare fun c hc => ⟨(f3 c hc).1.2.2.2.1, (f3 c hc).1.2.1, (f3 c hc).1.2.2.2.2.1, (f3 c hc).1.2.2.2.2.2⟩
      obtain ⟨g0, g1, g2, g3, g4, g5⟩ := I3.fpOk (Nat.le_refl _) nC
      exact ⟨m, hns, fun h'' sb => ⟨.ref D, H5, I7.turned (t' := s6.toks) (fun c o hb z => (sb.2 c hb).trans z) g0 g1 g3 g4 g5, rfl, fin D H5 hDn eD k5⟩⟩
  exact codeAny_compStart_list loop (wpAny_pyIter_zip st4.1 loop)
end
end Pw
/-! Pw23: `_law_names(e)` of an exception that is handled. -/
namespace Pw
open PySem PySem.Spec PyProof.Rows L2
/-- a class that `_law_names` asks for; none: ValueError -/
abbrev HC := Option XC
def bitX (c : XC) : HC → Bool
  | none => true
  | some k => decide (c = k)
def HC.py : HC → PySem.Str
  | none => "ValueError"
  | some k => k.py
/-- what the class c at C says of itself -/
structure NmF (G : Gr) (okX : XC → Bool) (c : XC) (C : Addr) : Prop where
  e : ExcC G.K C
  k : ∀ k : XC, okX k = true → ∃ a, G.mg k.py = some (.ref a) ∧ PySem.W.kitOne G.K (.ref C) (.ref a) = some (decide (c = k))
  v : PySem.W.kitOne G.K (.ref C) (.type "ValueError") = some true
section
variable {G : Gr} {W : Row} {X : Cx} {p : Addr × Obj} {C : Addr} {c : XC} {sc : Scope}
theorem call_isH (hp : p ∈ X.pn) (E : ExcC X.K C) (hz : Zc (.ref C) none p.2) (hf : ∃ vs, p.2.data = .fields vs) : CallR X (.builtin "isinstance") (rIsE X.K C p.1) := by
  intro pins s σ H xs us Q I r h
  obtain ⟨k, cv, b, rfl, hcv, e, q⟩ := h
  cases r with
  | cons rx rr =>
    cases rr with
    | cons rt rr =>
      cases rr
      cases rx
      have ec := hcv _ rt
      subst ec
      obtain ⟨hget, _⟩ := I.pin p (List.mem_append_left _ hp)
      obtain ⟨vs, hv⟩ := hf
      have J : PySem.W.InstAt s.heap p.1 p.2 C none := by
        obtain ⟨a, ⟨oc, od, oda, osl⟩⟩ := p
        obtain ⟨z1, z2⟩ := hz
        dsimp only at z1 z2 hv hget
        subst z1 z2 hv
        exact ⟨hget, rfl, rfl, trivial⟩
      exact PySem.W.kia_one (PySem.W.handS_kitx_exc E.hg E.hk E.hs E.hd E.ha E.hn E.ht E.hm) I.kIn J e (fun z => nomatch z) fun tk => ⟨.bl b, H, I.kept (t' := tk) fun _ _ z => z, rfl, q⟩
/-- the place within `_law_names` -/
structure Nz (G : Gr) (W : Row) (c : XC) (C : Addr) (p : Addr × Obj) (N : List PySem.Str) (sc : Scope) (X : Cx) : Prop where
  hP : X.prog = G.P
  hw : X.w = G.w
  hK : X.K = G.K
  hmg : X.mg = G.mg
  hN : X.N = N
  nd : N.Nodup
  hsc : X.env.scope = sc
  kind : sc.kind = .function
  fn : ∀ x, X.fn x = true
  hp : p ∈ X.pn
  hot : L2H.Hot1 X.A p
  hz : Zc (.ref C) none p.2
  hf : ∃ vs, p.2.data = .fields vs
  nm : NmF G W.okX c C
  bn : ∀ x, W.bn.contains x = true → G.mg x = none
def hIs (W : Row) (N : List PySem.Str) (sc : Scope) (k : HC) (e : Expr) : Bool := match e with
  | .Call (.Name f _) [.Name v _, .Name z _] [] _ => bltB W sc f "isinstance" && decide (N[0]? = some v) && visB sc v && nmOk v && decide (z = k.py) && glB sc z && nmOk z && (match k with
    | none => W.bn.contains z
    | some k => W.okX k)
  | _ => false
def hIss (W : Row) (N : List PySem.Str) (sc : Scope) : List HC → List Expr → Bool
  | [], es => es.isEmpty
  | k :: ks, es => (match es with
    | e :: r => okE e && hIs W N sc k e && hIss W N sc ks r
    | [] => false)
/-- slot 0 holds the exception -/
def tIs (p : Addr × Obj) (b : Bool) : TE := fun σ H Q => σ[0]? = some (some (.ref p.1)) ∧ Q (.bl b) H
theorem p_is {N : List PySem.Str} (z : Nz G W c C p N sc X) {k : HC} {e : Expr} (h : hIs W N sc k e = true) : PE X e (tIs p (bitX c k)) := by
  unfold hIs at h
  split at h
  · rename_i f p1 v p2 y p3 p4
    simp only [Bool.and_eq_true, decide_eq_true_eq] at h
    obtain ⟨⟨⟨⟨⟨⟨⟨h1, h2⟩, h3⟩, h4⟩, h5⟩, h6⟩, h7⟩, h8⟩ := h
    unfold bltB at h1
    simp only [Bool.and_eq_true, decide_eq_true_eq] at h1
    obtain ⟨⟨⟨g1, g2⟩, g3⟩, g4⟩ := h1
    subst g1
    have hv : Vis X.env.scope v := by
      rw [z.hsc]
      unfold visB at h3
      split at h3
      · exact .inl (by assumption)
      · exact .inr (.inl (by assumption))
      · exact .inr (.inr (by assumption))
      · cases h3
    obtain ⟨n1, _, n3⟩ := nm_parts g4
    obtain ⟨d1, d2, _⟩ := nm_parts h4
    obtain ⟨c1, _, c3⟩ := nm_parts h7
    have hg : Gl X "isinstance" := gl_of z.hsc g2
    have R := call_isH z.hp (by rw [z.hK]; exact z.nm.e) z.hz z.hf
    have pv : PE X (.Name v p2) (tVar 0) := pe_var (by rw [z.hN]; exact h2) hv d1 d2
    cases k with
    | none =>
      have pt : PE X (.Name y p3) (tC (.ty "ValueError")) := pe_bltn (gl_of z.hsc h6) (by rw [z.hmg]; exact z.bn y h8) (u := .type "ValueError") (by rw [h5]; decide +kernel) rfl c3 c1
      refine imp_PE (pe_callB R hg (by rw [z.hmg]; exact z.bn _ g3) (by decide +kernel) (pa_cons pv (pa_cons pt pa_nil)) n3 n1) fun σ H Q q => ?_
      exact ⟨.ref p.1, q.1, .ty "ValueError", .type "ValueError", true, rfl, fun u hu => hu, by rw [z.hK]; exact z.nm.v, q.2⟩
    | some k =>
      obtain ⟨a, e1, e2⟩ := z.nm.k k h8
      have pt : PE X (.Name y p3) (tC (.ref a)) := pe_glob (gl_of z.hsc h6) (v := .ref a) (u := .ref a) (by rw [z.hmg, h5]; exact e1) rfl c1
      refine imp_PE (pe_callB R hg (by rw [z.hmg]; exact z.bn _ g3) (by decide +kernel) (pa_cons pv (pa_cons pt pa_nil)) n3 n1) fun σ H Q q => ?_
      exact ⟨.ref p.1, q.1, .ref a, .ref a, decide (c = k), rfl, fun u hu => hu, by rw [z.hK]; exact e2, q.2⟩
  · cases h
def tIss (p : Addr × Obj) (bs : List Bool) : TA := fun σ H Q => σ[0]? = some (some (.ref p.1)) ∧ Q (bs.map .bl) H
theorem p_iss {N : List PySem.Str} (z : Nz G W c C p N sc X) : ∀ (ks : List HC) (es : List Expr), hIss W N sc ks es = true → PA X es (tIss p (ks.map (bitX c)))
  | [], es, h => by
    unfold hIss at h
    cases es with
    | nil => exact imp_PA pa_nil fun σ H Q q => q.2
    | cons _ _ => cases h
  | k :: ks, es, h => by
    unfold hIss at h
    cases es with
    | nil => cases h
    | cons e r =>
      simp only [Bool.and_eq_true] at h
      exact imp_PA (pa_cons (p_is z h.1.2) (p_iss z ks r h.2) (okE_star h.1.1)) fun σ H Q q => ⟨q.1, q.1, q.2⟩
end
end Pw
/-! Pw24: the body of `_law_names`. -/
namespace Pw
open PySem PySem.Spec PyProof.Rows L2
/-- the slots within `_law_names`: the exception, the marks, the labels -/
structure J (p : Addr × Obj) (n : Nat) (H0 : Hp) (bs : Option (List Bool)) (l : Option PySem.Str) (σ : L2.St) (H : Hp) : Prop where
  len : σ.length = n
  e : σ[0]? = some (some (.ref p.1))
  b : ∀ x, bs = some x → ∃ a, σ[1]? = some (some (.ref a)) ∧ H a = some (.lst (x.map .bl))
  l : ∀ x, l = some x → σ[2]? = some (some (.str x))
  k : ∀ c o, H0 c = some o → H c = some o
def tJ (p : Addr × Obj) (n : Nat) (H0 : Hp) (b : Option (List Bool)) (l : Option PySem.Str) (b' : Option (List Bool)) (l' : Option PySem.Str) : TS := fun D σ H => J p n H0 b l σ H ∧ ∀ σ' H', J p n H0 b' l' σ' H' → D.nx σ' H'
section
variable {G : Gr} {W : Row} {X : Cx} {p : Addr × Obj} {C : Addr} {c : XC} {sc : Scope} {N : List PySem.Str} {n : Nat} {H0 : Hp}
theorem Nz.loc (z : Nz G W c C p N sc X) {x : PySem.Str} (h : locB sc x = true) : Loc X.env.scope x := by
  rw [z.hsc]
  unfold locB at h
  split at h
  · rename_i q; exact .inl q
  · rename_i q; exact .inr q
  · cases h
theorem Nz.vis (z : Nz G W c C p N sc X) {x : PySem.Str} (h : visB sc x = true) : Vis X.env.scope x := by
  rw [z.hsc]
  unfold visB at h
  split at h
  · exact .inl (by assumption)
  · exact .inr (.inl (by assumption))
  · exact .inr (.inr (by assumption))
  · cases h
def hA1 (W : Row) (N : List PySem.Str) (sc : Scope) (ks : List HC) (st : Stmt) : Bool := match st with
  | .Assign [.Name x _] (.List es _) _ => decide (N[1]? = some x) && locB sc x && hIss W N sc ks es && decide (ks.length ≤ 100)
  | _ => false
def hA2 (W : Row) (N : List PySem.Str) (sc : Scope) (ks : List HC) (st : Stmt) : Bool := match st with
  | .Assign [.Name x _] (.BinOp (.Name y _) .Add (.List es _) _) _ => decide (N[1]? = some x) && locB sc x && decide (N[1]? = some y) && visB sc y && nmOk y && hIss W N sc ks es && decide (ks.length ≤ 100)
  | _ => false
def hL1 (N : List PySem.Str) (sc : Scope) (t : PySem.Str) (st : Stmt) : Bool := match st with
  | .Assign [.Name x _] (.Constant (.str s) _ _) _ => decide (N[2]? = some x) && locB sc x && decide (s = t)
  | _ => false
def hL2 (N : List PySem.Str) (sc : Scope) (t : PySem.Str) (st : Stmt) : Bool := match st with
  | .Assign [.Name x _] (.BinOp (.Name y _) .Add (.Constant (.str s) _ _) _) _ => decide (N[2]? = some x) && locB sc x && decide (N[2]? = some y) && visB sc y && nmOk y && decide (s = t)
  | _ => false
theorem p_A1 (z : Nz G W c C p N sc X) (hn : 5 ≤ n) {ks : List HC} {st : Stmt} (h : hA1 W N sc ks st = true) : L2.PS X st (tJ p n H0 none none (some (ks.map (bitX c))) none) := by
  unfold hA1 at h
  split at h
  · rename_i x p1 es p2 p3
    simp only [Bool.and_eq_true, decide_eq_true_eq] at h
    obtain ⟨⟨⟨h1, h2⟩, h3⟩, h4⟩ := h
    refine imp_PS (ps_set (i := 1) (by rw [z.hN]; exact z.nd) (by rw [z.hN]; exact h1) (z.loc h2) (pe_lst (p_iss z ks es h3)) rfl (.inl (z.fn x))) fun D σ H ⟨j, q⟩ => ?_
    refine ⟨j.e, by rw [List.length_map, List.length_map, sizeLine_eq]; omega, fun a ha => q _ _ ⟨by rw [List.length_set]; exact j.len, by rw [List.getElem?_set_ne (by decide)]; exact j.e, fun y hy => ?_, fun y hy => (by cases hy), fun b o e => by rw [upd_ne (ne_of_none (j.k b o e) ha)]; exact j.k b o e⟩⟩
    cases hy
    exact ⟨a, by rw [List.getElem?_set_self (by rw [j.len]; omega)], upd_same⟩
  · cases h
theorem p_A2 (z : Nz G W c C p N sc X) (hn : 5 ≤ n) {ks : List HC} {bs : List Bool} (hb : bs.length ≤ 1000) {st : Stmt} (h : hA2 W N sc ks st = true) : L2.PS X st (tJ p n H0 (some bs) none (some (bs ++ ks.map (bitX c))) none) := by
  unfold hA2 at h
  split at h
  · rename_i x p1 y p4 es p5 p2 p3
    simp only [Bool.and_eq_true, decide_eq_true_eq] at h
    obtain ⟨⟨⟨⟨⟨⟨h1, h2⟩, h3⟩, h4⟩, h5⟩, h6⟩, h7⟩ := h
    obtain ⟨d1, d2, _⟩ := nm_parts h5
    refine imp_PS (ps_set (i := 1) (by rw [z.hN]; exact z.nd) (by rw [z.hN]; exact h1) (z.loc h2) (pe_op op_cat (pe_var (i := 1) (by rw [z.hN]; exact h3) (z.vis h4) d1 d2) (pe_lst (p_iss z ks es h6))) rfl (.inl (z.fn x))) fun D σ H ⟨j, q⟩ => ?_
    obtain ⟨a, e1, e2⟩ := j.b bs rfl
    refine ⟨.ref a, e1, j.e, by rw [List.length_map, List.length_map, sizeLine_eq]; omega, fun b hb' => ?_⟩
    have e3 : upd H b (.lst ((ks.map (bitX c)).map .bl)) a = some (.lst (bs.map .bl)) := by rw [upd_ne (ne_of_none e2 hb')]; exact e2
    refine ⟨a, b, bs.map .bl, (ks.map (bitX c)).map .bl, rfl, rfl, e3, upd_same, by rw [List.length_map, List.length_map, List.length_map, sizeLine_eq]; omega, fun d hd => ?_⟩
    refine q _ _ ⟨by rw [List.length_set]; exact j.len, by rw [List.getElem?_set_ne (by decide)]; exact j.e, fun y hy => ?_, fun y hy => (by cases hy), fun k o e => ?_⟩
    · cases hy
      exact ⟨d, by rw [List.getElem?_set_self (by rw [j.len]; omega)], by rw [upd_same, List.map_append]⟩
    · have k1 : upd H b (.lst ((ks.map (bitX c)).map .bl)) k = some o := by rw [upd_ne (ne_of_none (j.k k o e) hb')]; exact j.k k o e
      rw [upd_ne (ne_of_none k1 hd)]
      exact k1
  · cases h
theorem p_L1 (z : Nz G W c C p N sc X) (hn : 5 ≤ n) {t : PySem.Str} {bs : List Bool} {st : Stmt} (h : hL1 N sc t st = true) : L2.PS X st (tJ p n H0 (some bs) none (some bs) (some t)) := by
  unfold hL1 at h
  split at h
  · rename_i x p1 s kk p2 p3
    simp only [Bool.and_eq_true, decide_eq_true_eq] at h
    obtain ⟨⟨h1, h2⟩, h3⟩ := h
    subst h3
    refine imp_PS (ps_set (i := 2) (by rw [z.hN]; exact z.nd) (by rw [z.hN]; exact h1) (z.loc h2) pe_str rfl (.inl (z.fn x))) fun D σ H ⟨j, q⟩ => ?_
    obtain ⟨a, e1, e2⟩ := j.b bs rfl
    refine q _ _ ⟨by rw [List.length_set]; exact j.len, by rw [List.getElem?_set_ne (by decide)]; exact j.e, fun y hy => ?_, fun y hy => ?_, j.k⟩
    · cases hy
      exact ⟨a, by rw [List.getElem?_set_ne (by decide)]; exact e1, e2⟩
    · cases hy
      rw [List.getElem?_set_self (by rw [j.len]; omega)]
  · cases h
theorem p_L2 (z : Nz G W c C p N sc X) (hn : 5 ≤ n) {t u : PySem.Str} (hl : u.length + t.length ≤ 10000) {bs : List Bool} {st : Stmt} (h : hL2 N sc t st = true) : L2.PS X st (tJ p n H0 (some bs) (some u) (some bs) (some (u ++ t))) := by
  unfold hL2 at h
  split at h
  · rename_i x p1 y p4 s kk p5 p2 p3
    simp only [Bool.and_eq_true, decide_eq_true_eq] at h
    obtain ⟨⟨⟨⟨⟨h1, h2⟩, h3⟩, h4⟩, h5⟩, h6⟩ := h
    subst h6
    obtain ⟨d1, d2, _⟩ := nm_parts h5
    refine imp_PS (ps_set (i := 2) (by rw [z.hN]; exact z.nd) (by rw [z.hN]; exact h1) (z.loc h2) (pe_op op_add_str (pe_var (i := 2) (by rw [z.hN]; exact h3) (z.vis h4) d1 d2) pe_str) rfl (.inl (z.fn x))) fun D σ H ⟨j, q⟩ => ?_
    obtain ⟨a, e1, e2⟩ := j.b bs rfl
    refine ⟨.str u, j.l u rfl, u, s, rfl, rfl, by rw [sizeLine_eq]; omega, ?_⟩
    refine q _ _ ⟨by rw [List.length_set]; exact j.len, by rw [List.getElem?_set_ne (by decide)]; exact j.e, fun y hy => ?_, fun y hy => ?_, j.k⟩
    · cases hy
      exact ⟨a, by rw [List.getElem?_set_ne (by decide)]; exact e1, e2⟩
    · cases hy
      rw [List.getElem?_set_self (by rw [j.len]; omega)]
  · cases h
def hZ (W : Row) (N : List PySem.Str) (sc : Scope) (e : Expr) : Bool := match e with
  | .ListComp (.Name w _) [⟨.Tuple [.Name w2 _, .Name g _] _ _, .Call (.Name zf _) [.Call (.Attribute (.Name l _) m ap) [.Constant (.str s) _ _] [] p2, .Name b _] [] _, [.Name g2 _], 0⟩] scope _ =>
    decide (N[3]? = some w) && decide (w2 = w) && decide (N[4]? = some g) && decide (g2 = g) && bltB W sc zf "zip" && decide (N[2]? = some l) && visB sc l && nmOk l && decide (m = "split") && (ap.endLine == p2.line) && decide (s = " ") && decide (N[1]? = some b) && visB sc b && nmOk b && blkC N sc scope (ownN N [3, 4]) && decide (scope.names.lookup w = some .local) && decide (scope.names.lookup g = some .local) && nmOk w && nmOk g
  | _ => false
def hR (W : Row) (N : List PySem.Str) (sc : Scope) (st : Stmt) : Bool := match st with
  | .Return (some (.Call (.Attribute (.Constant (.str s) _ _) m ap) [e] [] p)) _ => decide (s = " ") && decide (m = "join") && (ap.endLine == p.line) && hZ W N sc e
  | _ => false
theorem hZ_ok {e : Expr} (h : hZ W N sc e = true) : okE e = true := by
  unfold hZ at h
  split at h
  · rfl
  · cases h
theorem p_Z (z : Nz G W c C p N sc X) {e : Expr} (h : hZ W N sc e = true) : PE X e (fun σ H Q => ∃ bs l, J p n H0 (some bs) (some l) σ H ∧ (Txt.split l " ").length = bs.length ∧ bs.length ≤ 1000 ∧ l.length ≤ 10000 ∧
    ∀ D H', H' D = some (.lst ((selW (Txt.split l " ") bs).map .str)) → (∀ c o, H0 c = some o → H' c = some o) → Q (.ref D) H') := by
  unfold hZ at h
  split at h
  · rename_i w q1 w2 q2 g q3 k4 q5 zf q0 l q6 m ap s k7 q8 p2 b q9 q10 g2 q11 scope q12
    simp only [Bool.and_eq_true, decide_eq_true_eq] at h
    obtain ⟨⟨⟨⟨⟨⟨⟨⟨⟨⟨⟨⟨⟨⟨⟨⟨⟨⟨h1, h2⟩, h3⟩, h4⟩, h5⟩, h6⟩, h7⟩, h8⟩, h9⟩, h10⟩, h11⟩, h12⟩, h13⟩, h14⟩, h15⟩, h16⟩, h17⟩, h18⟩, h19⟩ := h
    subst h2 h4 h9 h11
    unfold bltB at h5
    simp only [Bool.and_eq_true, decide_eq_true_eq] at h5
    obtain ⟨⟨⟨g1, g2⟩, g3⟩, g4⟩ := h5
    subst g1
    obtain ⟨a1, a2, _⟩ := nm_parts h8
    obtain ⟨b1, b2, _⟩ := nm_parts h14
    obtain ⟨c1, c2, _⟩ := nm_parts h18
    obtain ⟨d1, d2, _⟩ := nm_parts h19
    have sp := pe_split (X := X) (apos := ap) (pos := p2) (pe_var (i := 2) (pos := q6) (by rw [z.hN]; exact h6) (z.vis h7) a1 a2) (pe_str (x := " ") (j := k7) (pos := q8)) rfl rfl h10
    have pa := pa_cons sp (pa_cons (pe_var (i := 1) (pos := q9) (by rw [z.hN]; exact h12) (z.vis h13) b1 b2) pa_nil)
    have B : BlkOk X.N X.env.scope scope (ownN N [3, 4]) := by rw [z.hN, z.hsc]; exact blkOk_by h15
    refine imp_PE (pe_selH z.hot z.hp (by rw [z.hN]; exact z.nd) B (iw := 3) (ig := 4) (by rw [z.hN]; exact h1) (by rw [z.hN]; exact h3) (by decide) (by rw [ownN_snd]; decide) (by rw [ownN_snd]; decide) h16 h17 c1 d1 c2 d2 (gl_of z.hsc g2) (by rw [z.hmg]; exact z.bn _ g3) pa rfl rfl) fun σ H Q q => ?_
    obtain ⟨bs, t, j, k1, k2, k3, k4⟩ := q
    obtain ⟨a, e1, e2⟩ := j.b bs rfl
    refine ⟨.str t, j.l t rfl, ⟨t, rfl⟩, t, " ", rfl, rfl, rfl, by rw [sizeLine_eq]; omega, fun d hd => ?_⟩
    refine ⟨.ref a, e1, ?_⟩
    refine ⟨d, a, Txt.split t " ", bs, rfl, upd_same, by rw [upd_ne (ne_of_none e2 hd)]; exact e2, k1, by omega, fun D H' n1 n2 n3 => k4 D H' n2 fun cc o e => n3 cc o ?_⟩
    rw [upd_ne (ne_of_none (j.k cc o e) hd)]
    exact j.k cc o e
  · cases h
theorem p_R (z : Nz G W c C p N sc X) {st : Stmt} (h : hR W N sc st = true) : L2.PS X st (fun D σ H => ∃ bs l, J p n H0 (some bs) (some l) σ H ∧ (Txt.split l " ").length = bs.length ∧ bs.length ≤ 1000 ∧ l.length ≤ 10000 ∧ ((selW (Txt.split l " ") bs).map (·.length)).sum + (selW (Txt.split l " ") bs).length * (" " : PySem.Str).length ≤ 16777216 ∧
    ∀ H', (∀ c o, H0 c = some o → H' c = some o) → D.rt (.str (Txt.join " " (selW (Txt.split l " ") bs))) H') := by
  unfold hR at h
  split at h
  · rename_i s k1 q1 m ap e p1 p2
    simp only [Bool.and_eq_true, decide_eq_true_eq] at h
    obtain ⟨⟨⟨h1, h2⟩, h3⟩, h4⟩ := h
    subst h1 h2
    have ho := hZ_ok h4
    refine imp_PS (ps_ret (pe_join (pe_str (x := " ") (j := k1) (pos := q1)) (p_Z (n := n) (H0 := H0) z h4) (okE_star ho) rfl h3)) fun D σ H q => ?_
    obtain ⟨bs, t, j, k1, k2, k3, k4, k5⟩ := q
    exact ⟨⟨" ", rfl⟩, bs, t, j, k1, k2, k3, fun D' H' e1 e2 => ⟨" ", D', selW (Txt.split t " ") bs, rfl, rfl, .inl (.inl (.inl e1)), k4, k5 H' e2⟩⟩
  · cases h
end
end Pw
/-! Pw25: `_law_names(e)` called in the except suite. -/
namespace Pw
open PySem PySem.Spec PyProof.Rows L2
def ks1 : List HC := [some .InvalidWardrobe, some .InvalidFacts, some .InvalidFact]
def ks2 : List HC := [some .InvalidWidths, some .InvalidShelves]
def ks3 : List HC := [some .InvalidStanding, some .InvalidMoves, some .InvalidTruth]
def ks4 : List HC := [some .InvalidNumber, some .InvalidIndex, some .Impossible]
def ks5 : List HC := [some .Unlike, some .NothingToUndo, some .InvalidText]
def ks6 : List HC := [some .TooMany, none]
def lab1 : PySem.Str := "wardrobe facts fact widths shelves standing moves truth number index impossible"
def lab2 : PySem.Str := " unlike undo text many value"
def bitsX (c : XC) : List Bool := ((((ks1.map (bitX c) ++ ks2.map (bitX c)) ++ ks3.map (bitX c)) ++ ks4.map (bitX c)) ++ ks5.map (bitX c)) ++ ks6.map (bitX c)
def wordsX : List PySem.Str := ["wardrobe", "facts", "fact", "widths", "shelves", "standing", "moves", "truth", "number", "index", "impossible", "unlike", "undo", "text", "many", "value"]
theorem split_eq : Txt.split (lab1 ++ lab2) " " = wordsX := by decide +kernel
theorem told_eq (c : XC) : Txt.join " " (selW (Txt.split (lab1 ++ lab2) " ") (bitsX c)) = c.told := by rw [split_eq]; cases c <;> decide +kernel
theorem told_len (c : XC) : (Txt.split (lab1 ++ lab2) " ").length = (bitsX c).length := by rw [split_eq]; cases c <;> rfl
theorem told_sum (c : XC) : ((selW (Txt.split (lab1 ++ lab2) " ") (bitsX c)).map (·.length)).sum + (selW (Txt.split (lab1 ++ lab2) " ") (bitsX c)).length * (" " : PySem.Str).length ≤ 16777216 := by rw [split_eq]; cases c <;> decide +kernel
def hNames (W : Row) (N : List PySem.Str) (sc : Scope) (ss : List Stmt) : Bool := match ss with
  | [a, b, c, d, e, f, l, m, r] => hA1 W N sc ks1 a && hA2 W N sc ks2 b && hA2 W N sc ks3 c && hA2 W N sc ks4 d && hA2 W N sc ks5 e && hA2 W N sc ks6 f && hL1 N sc lab1 l && hL2 N sc lab2 m && hR W N sc r
  | _ => false
section
variable {G : Gr} {W : Row} {X : Cx} {p : Addr × Obj} {C : Addr} {c : XC} {sc : Scope} {N : List PySem.Str} {n : Nat}
theorem seq_J {H0 : Hp} {a a' : Option (List Bool)} {l l' : Option PySem.Str} {s : Stmt} {r : List Stmt} {u : TS} (h1 : L2.PS X s (tJ p n H0 a l a' l')) (h2 : L2.PSs X r u) : L2.PSs X (s :: r) (fun D σ H => J p n H0 a l σ H ∧ ∀ σ' H', J p n H0 a' l' σ' H' → u D σ' H') :=
  imp_PSs (pss_cons h1 h2) fun D σ H q => q
theorem p_names (z : Nz G W c C p N sc X) (hn : 5 ≤ n) {ss : List Stmt} (h : hNames W N sc ss = true) : L2.PSs X ss (fun D σ H => σ.length = n ∧ σ[0]? = some (some (.ref p.1)) ∧ ∀ H', (∀ k o, H k = some o → H' k = some o) → D.rt (.str c.told) H') := by
  unfold hNames at h
  split at h
  · rename_i s1 s2 s3 s4 s5 s6 s7 s8 s9
    simp only [Bool.and_eq_true] at h
    obtain ⟨⟨⟨⟨⟨⟨⟨⟨h1, h2⟩, h3⟩, h4⟩, h5⟩, h6⟩, h7⟩, h8⟩, h9⟩ := h
    refine ⟨fun pins s σ H D I q => ?_⟩
    obtain ⟨e1, e2, e3⟩ := q
    have q1 := p_A1 (n := n) (H0 := H) z hn h1
    have q2 := p_A2 (n := n) (H0 := H) (bs := ks1.map (bitX c)) z hn (by rw [List.length_map]; decide) h2
    have q3 := p_A2 (n := n) (H0 := H) (bs := ks1.map (bitX c) ++ ks2.map (bitX c)) z hn (by simp [ks1, ks2]) h3
    have q4 := p_A2 (n := n) (H0 := H) (bs := (ks1.map (bitX c) ++ ks2.map (bitX c)) ++ ks3.map (bitX c)) z hn (by simp [ks1, ks2, ks3]) h4
    have q5 := p_A2 (n := n) (H0 := H) (bs := ((ks1.map (bitX c) ++ ks2.map (bitX c)) ++ ks3.map (bitX c)) ++ ks4.map (bitX c)) z hn (by simp [ks1, ks2, ks3, ks4]) h5
    have q6 := p_A2 (n := n) (H0 := H) (bs := (((ks1.map (bitX c) ++ ks2.map (bitX c)) ++ ks3.map (bitX c)) ++ ks4.map (bitX c)) ++ ks5.map (bitX c)) z hn (by simp [ks1, ks2, ks3, ks4, ks5]) h6
    have q7 := p_L1 (n := n) (H0 := H) (bs := bitsX c) z hn h7
    have q8 := p_L2 (n := n) (H0 := H) (bs := bitsX c) (u := lab1) z hn (by decide +kernel) h8
    have q9 := p_R (n := n) (H0 := H) z h9
    refine (seq_J q1 (seq_J q2 (seq_J q3 (seq_J q4 (seq_J q5 (seq_J q6 (seq_J q7 (seq_J q8 (pss_one q9))))))))).run pins s σ H D I ?_
    refine ⟨⟨e1, e2, fun _ z => (nomatch z), fun _ z => (nomatch z), fun _ _ z => z⟩, fun σ1 H1 j1 => ⟨j1, fun σ2 H2 j2 => ⟨j2, fun σ3 H3 j3 => ⟨j3, fun σ4 H4 j4 => ⟨j4, fun σ5 H5 j5 => ⟨j5, fun σ6 H6 j6 => ⟨j6, fun σ7 H7 j7 => ⟨j7, fun σ8 H8 j8 => ?_⟩⟩⟩⟩⟩⟩⟩⟩
    refine ⟨bitsX c, lab1 ++ lab2, j8, told_len c, ?_, by decide +kernel, told_sum c, fun H' k => ?_⟩
    · rw [← told_len c, split_eq]; decide
    · rw [told_eq]; exact e3 H' k
  · cases h
end
section
variable {G : Gr} {W : Row} {p : Addr × Obj} {C : Addr} {c : XC} {N : List PySem.Str}
theorem names_run {f : Addr} {x qual : PySem.Str} {params : Arguments} {body : List Stmt} {scope : Scope} {dV kV doc pm cdv ct oc : Value} {an od : Option Addr} {osl : Array (Option Value)} {ps : List PySem.Str} (hps : ps.length = 1) (hN : N.length = 5)
    (lk : G.K.lookup f = some ⟨oc, od, .func (PySem.W.fnOf x qual params body scope dV kV doc pm an cdv ct), osl⟩) (hcd : PySem.W.codeIn G.K cdv qual = true) (S : FnScope N ps scope) (hb : hNames W N scope body = true)
    (hz : Zc (.ref C) none p.2) (hf : ∃ vs, p.2.data = .fields vs) (nm : NmF G W.okX c C) (bn : ∀ x, W.bn.contains x = true → G.mg x = none)
    {A : Around} {outer : List PySem.Env} {s : Shared} {H : Hp} {args : Args} {k : Nat} {Q : VK} {E : XK} (hr : L2H.RoomH (k + 1) A) (hot : L2H.Hot1 A p) (hpin : L2H.PinOk outer H s p) (e0 : Env0 G.P G.w G.K G.mg G.base A outer s H) (hbt : BindsTo s (PySem.W.fnOf x qual params body scope dV kV doc pm an cdv ct) args (ps.zip [.ref p.1]))
    (q : ∀ H', (∀ k o, H k = some o → H' k = some o) → Q (.str c.told) H') : codeAny (model G.P G.w) A (.call (.ref f) args) (CR (L2N.CX G.P G.w) outer G.P G.w H s Q E) s := by
  have KX : G.K.In s.heap := e0.mod.kin.keeps fun b o e => (e0.bs b o e).1
  have lim : s.heap.NoLimit := e0.mod.nolimit.keeps fun b o e => (e0.bs b o e).1
  have hkind : ∀ y ∈ ps.zip [Value.ref p.1], scope.names.lookup y.1 = some .local ∨ (scope.names.lookup y.1 = some .cell ∧ ((cellsFrom (s.heap.objs.size + 1) scope.names []).lookup y.1).isSome = true) := fun ⟨n, v⟩ hy => by
    rcases S.par n (List.of_mem_zip hy).1 with q | q
    · exact .inl q
    · exact .inr ⟨q, PySem.W.cellsFrom_some _ _ _ (.inl q)⟩
  refine codeAny_call_function hr.depth (KX _ _ lk) rfl S.co S.gen rfl (PySem.W.codeRec_of KX hcd) (hbt _ _ _ _ ?_)
  refine wpAny_newFunctionEnv_cells S.kind hkind fun env he s1 xx => ?_
  subst he
  refine ⟨lim.keeps xx.toInCall.keep, codeAny_func ?_⟩
  have z : Nz G W c C p N scope (L2H.cxH (L2N.CX G.P G.w) G.P G.w G.K G.mg G.base N qual scope f cdv A outer s H E p) :=
    ⟨rfl, rfl, rfl, rfl, rfl, S.nd, rfl, S.kind, fun _ => rfl, List.mem_singleton.mpr rfl, hot, hz, hf, nm, bn⟩
  have I := L2H.inv_startH (CX := L2N.CX G.P G.w) (E := E) (vs := [.ref p.1]) S hpin e0 hps.symm (.cons rfl .nil) xx
  refine wpAny_mono ((p_names (n := 5) z (Nat.le_refl _) hb).run [] s1 (L2.start N [.ref p.1]) H { nx := fun _ H' => Q .non H', rt := Q } I ⟨?_, rfl, q⟩) (fun fl s' hs => ?_) fun e s' hs => hs
  · unfold L2.start
    rw [List.length_append, List.length_map, List.length_replicate, hN]
    rfl
  · cases fl with
    | ret u =>
      obtain ⟨v, σ', H', Jn, rv, q⟩ := hs
      exact ⟨v, H', Jn.os, Jn.bare, Jn.base, Jn.hok, rv, q⟩
    | next =>
      obtain ⟨σ', H', Jn, q⟩ := hs
      exact ⟨.non, H', Jn.os, Jn.bare, Jn.base, Jn.hok, rfl, q⟩
    | brk =>
      obtain ⟨_, _, _, q⟩ := hs
      exact False.elim q
    | cont =>
      obtain ⟨_, _, _, q⟩ := hs
      exact False.elim q
end
end Pw
/-! Pw26: lambdas, `_law_error`. -/
namespace Pw
open PySem PySem.Spec PyProof.Rows L2
/-- the context of a lambda's body; its exceptions have no context -/
abbrev lamN (X : Cx) (A : Around) (outer : List PySem.Env) (s : Shared) (H : Hp) (E : XK) (scope : Scope) (f c' : Addr) : Cx := (LamX.lamCx X A outer s H (fun _ _ _ => False) scope f c').wish fun e s' => wpAny (model X.prog X.w) (A.deeper (LamX.lamEnv X scope s.heap.objs.size f c')) (leaving (LamX.lamEnv X scope s.heap.objs.size f c') e) (fun _ s'' => L2N.CX X.prog X.w outer H s E e s'') (fun e' s'' => L2N.CX X.prog X.w outer H s E e' s'') s'
section
variable {X : Cx} {pins : List (Addr × Obj)} {σ : L2.St} {H : Hp} {s : Shared}
theorem pe_actN {CXg : CXT} {Eg : XK} {Ng : List PySem.Str} {qg : PySem.Str} {sg : Scope} {g f c' : Addr} {cdg pm ctv : Value} {params : Arguments} {body : Expr} {scope : Scope} {k i : Nat} {a : PySem.Str} {pn : List (Addr × Obj)} {xe : Value → Shared → Prop} {Wx : WX} {E : XK} {tb : TE} {p1 p2 : Pos}
    (I : L2.Inv X pins σ H s) (L : LamX.LamS X.env.scope scope) (hf : s.heap.get? f = some (PySem.W.kla_obj "<lambda>" (X.env.qual ++ "<lambda>") params body scope (cloFrom X.env.cells scope.names []) pm c' ctv)) (hfn : H f = none) (hfr : f ∉ frs X.stack)
    (hbind : bindArgs (PySem.W.kla_fn "<lambda>" (X.env.qual ++ "<lambda>") params body scope (cloFrom X.env.cells scope.names []) pm (.ref c') ctv) ⟨[], []⟩ = pure [])
    (tk : L2N.Takes ((cxOf CXg X.prog X.w X.K X.mg X.base Ng qg sg g cdg X.A X.stack s H Eg).tr pn xe) Wx) (hW : ∀ cls d σ' H', E cls d H' → Wx cls d σ' H') (hr : Room (k + 1) (X.A.deeper (envOfC qg sg s.heap.objs.size g cdg)))
    (hbody : ∀ (A : Around) (outer : List PySem.Env) (s : Shared) (H : Hp), Room k (A.deeper (LamX.lamEnv X scope s.heap.objs.size f c')) → PE (lamN X A outer s H E scope f c') body tb)
    (hN : Ng[i]? = some a) (hv : Vis sg a) (hd : (a == ("__debug__" : PySem.Str)) = false) (hcd : (a == ("__classdict__" : PySem.Str)) = false) :
    PE ((cxOf CXg X.prog X.w X.K X.mg X.base Ng qg sg g cdg X.A X.stack s H Eg).tr pn xe) (.Call (.Name a p1) [] [] p2)
      (fun σZ HZ Q => σZ[i]? = some (some (.ref f)) ∧ HZ c' = some (LamX.CodeO c' (X.env.qual ++ "<lambda>")) ∧ tb σ HZ Q) := by
  refine ⟨fun pinsZ sZ σZ HZ Q IZ h => ?_⟩
  obtain ⟨hs, hc, ht⟩ := h
  refine wpAny_Call_Name_kw (thn ((pe_var (pos := p1) (i := i) hN hv hd hcd).run pinsZ sZ σZ HZ (fun v H1 => v = .ref f ∧ H1 = HZ) IZ ⟨.ref f, hs, rfl, rfl⟩) fun u s1 ⟨v, H1, I1, r1, q1⟩ => ?_)
  obtain ⟨ev, eH⟩ := q1
  subst ev
  rw [eH] at I1
  obtain rfl : u = Value.ref f := r1
  have of1 : s1.heap.get? f = some (PySem.W.kla_obj "<lambda>" (X.env.qual ++ "<lambda>") params body scope (cloFrom X.env.cells scope.names []) pm c' ctv) := I1.base.keep f _ hf hfn hfr (fun z => nomatch (show f ∈ ([] : List Addr) from z))
  refine PySem.W.callWith_F0 ⟨_, _, _, _, of1⟩ ?_
  have un : Un (frs X.stack) [] H HZ s.heap s1.heap := I1.base
  obtain ⟨⟨oc, vs, t, hoc, hdc, hvc⟩, _, _⟩ := I1.hok c' _ hc
  have rc : codeAny (model X.prog X.w) (X.A.deeper (envOfC qg sg s.heap.objs.size g cdg)) (.call (.ref f) ⟨[], []⟩) (CR (L2N.CX X.prog X.w) (envOfC qg sg s.heap.objs.size g cdg :: X.stack) X.prog X.w HZ s1 Q E) s1 := by
    refine PySem.W.kla_callFunE hr.depth of1 rfl L.co L.gen rfl ⟨c', oc, vs, t, rfl, hoc, hdc, hvc⟩ ?_
    rw [hbind]
    refine wpAny_pure (wpAny_newFunctionEnv (fun y hy => (L.own y hy).2) (fun y hy => absurd hy (by simp)) (fun h1 hns hsb => ⟨I1.nolimit.fresh _ hsb, ?_⟩) L.kind)
    show codeAny _ _ (.expr body (LamX.lamEnv X scope s1.heap.objs.size f c')) _ _
    have kp : ∀ b o, s1.heap.get? b = some o → h1.get? b = some o := fun b o e => hsb.extBut b o (Nat.ne_of_lt (Heap.lt_size e)) (Heap.get?_push_of_some _ e)
    have J0 := LamX.lam_start2 (E := fun _ _ _ => False) (f := f) (c' := c') (tk := s1.toks + ([] : List (PySem.Str × Value)).length) I L I1.env0 hr.hd un hns kp
    have Jn : L2.Inv (lamN X (X.A.deeper (envOfC qg sg s.heap.objs.size g cdg)) (envOfC qg sg s.heap.objs.size g cdg :: X.stack) s1 HZ E scope f c') [] σ HZ { s1 with heap := h1, toks := s1.toks + ([] : List (PySem.Str × Value)).length } := J0.wish _
    refine PySem.W.kla_codeExpr (wpAny_mono ((hbody _ _ s1 HZ (hr.deeper _)).run [] _ _ HZ Q Jn ht) (fun v s' hq => ?_) fun e s' hq => hq)
    obtain ⟨w', H', J', rv, q⟩ := hq
    exact ⟨w', H', J'.os, J'.bare, J'.base, J'.hok, rv, q⟩
  have hx : Passes (L2N.CX X.prog X.w) ((cxOf CXg X.prog X.w X.K X.mg X.base Ng qg sg g cdg X.A X.stack s H Eg).tr pn xe) E := L2N.passes_call tk hW
  refine wpAny_call (codeAny_mono rc fun r s' hq => ?_)
  cases r with
  | error e => exact hx _ _ HZ s1 e s' I1 hq
  | ok fl =>
    cases fl with
    | ret u => exact I1.after hq
    | next => exact False.elim hq
    | brk => exact False.elim hq
    | cont => exact False.elim hq
end
end Pw
/-! Pw27: `_law_error(lambda: e)`. -/
namespace Pw
open PySem PySem.Spec PyProof.Rows L2
def hErr (sc : Scope) (ss : List Stmt) : Bool := match ss with
  | [.Try [.Expr (.Call (.Name a _) [] [] _) _] [.ExceptHandler (some (.Name px _)) (some en) [.Return (some (.Call (.Name nx _) [.Name e2 _] [] _)) _] _] [] [] _, .Return (some (.Constant (.str z) _ _)) _] =>
    decide (a = "call") && visB sc a && nmOk a && decide (px = "PanelError") && glB sc px && nmOk px && decide (en = "e") && lclB sc en && nmOk en && decide (nx = "_law_names") && glB sc nx && nmOk nx && decide (e2 = "e") && decide (z = "")
  | _ => false
/-- a def as it lies in K -/
structure DefK (G : Gr) (x : PySem.Str) (N ps : List PySem.Str) (f : Addr) (body : List Stmt) (sc : Scope) : Prop where
  mg : G.mg x = some (.ref f)
  kp : PySem.W.keepIn G.K (.ref f) = true
  S : FnScope N ps sc
  ex : ∃ (params : Arguments) (oc : Value) (od : Option Addr) (dV kV doc pm : Value) (an : Option Addr) (cdv ct : Value) (osl : Array (Option Value)),
    G.K.lookup f = some ⟨oc, od, .func (PySem.W.fnOf x x params body sc dV kV doc pm an cdv ct), osl⟩ ∧ PySem.W.codeIn G.K cdv x = true ∧ Binds G.K (PySem.W.fnOf x x params body sc dV kV doc pm an cdv ct) ps []
/-- what `_law_error` asks of the ground -/
structure ErrF (G : Gr) (W : Row) : Prop where
  err : ∃ (f : Addr) (body : List Stmt) (sc : Scope), DefK G "_law_error" ["call", "e"] ["call"] f body sc ∧ hErr sc body = true
  nam : ∃ (f : Addr) (body : List Stmt) (sc : Scope) (N : List PySem.Str), DefK G "_law_names" N ["e"] f body sc ∧ N.length = 5 ∧ hNames W N sc body = true
  okX : ∀ c, G.okX c = true → W.okX c = true
  pan : ∃ CP, G.mg "PanelError" = some (.ref CP) ∧ ∀ c, G.okX c = true → ∀ C, G.mg c.py = some (.ref C) → NmF G W.okX c C ∧ PySem.W.exmOne G.K (.ref C) (.ref CP) = some true
  bn : ∀ x, W.bn.contains x = true → G.mg x = none
section
variable {G : Gr} {W : Row} {Y : Cx} {p : Addr × Obj} {C : Addr} {c : XC}
theorem pe_names (F : ErrF G W) (hP : Y.prog = G.P) (hw : Y.w = G.w) (hK : Y.K = G.K) (hmg : Y.mg = G.mg) (hbs : Y.base = G.base) (hp : p ∈ Y.pn) (hot : L2H.Hot1 Y.A p) (hz : Zc (.ref C) none p.2) (hf : ∃ vs, p.2.data = .fields vs) (nm : NmF G W.okX c C)
    (hr : ∃ k, L2H.RoomH (k + 1) Y.A) {e : PySem.Str} {j : Nat} (hj : Y.N[j]? = some e) (hv : Vis Y.env.scope e) (d1 : (e == ("__debug__" : PySem.Str)) = false) (d2 : (e == ("__classdict__" : PySem.Str)) = false) (hg : Gl Y "_law_names") {p1 p2 p3 : Pos} :
    PE Y (.Call (.Name "_law_names" p1) [.Name e p2] [] p3) (fun σ H Q => σ[j]? = some (some (.ref p.1)) ∧ ∀ H', (∀ k o, H k = some o → H' k = some o) → Q (.str c.told) H') := by
  obtain ⟨f, body, sc, N, D, hN, hb⟩ := F.nam
  obtain ⟨params, oc, od, dV, kV, doc, pm, an, cdv, ct, osl, lk, hcd, hbi⟩ := D.ex
  obtain ⟨k, hr⟩ := hr
  refine ⟨fun pins s σ H Q I h => ?_⟩
  refine wpAny_Call_Name_kw (ld_glob I hg (u := .ref f) (by rw [hmg]; exact D.mg) ?_ rfl)
  have ha : PA Y [.Name e p2] (tCons (tVar j) tNil) := pa_cons (pe_var hj hv d1 d2) pa_nil
  refine PySem.W.callWith_K (h₀ := Y.base) I.ok.mod.kin (by rw [hK]; exact D.kp) (thn (ha.run p3 pins s σ H (fun vs H1 => vs = [.ref p.1] ∧ H1 = H) I ⟨.ref p.1, h.1, rfl, rfl⟩) fun us s1 ⟨vs, H1, I1, r, ev, eH⟩ => ⟨I1.kIn, ?_⟩) rfl rfl
  subst ev
  rw [eH] at I1
  obtain ⟨u, rfl, ru⟩ := r.one
  cases ru
  have b := hbi s1 [.ref p.1] (by rw [← hK]; exact I1.kIn) rfl
  rw [List.append_nil] at b
  have P1 := I1.pin p (List.mem_append_left _ hp)
  have hpin : L2H.PinOk Y.stack H s1 p := ⟨P1.1, P1.2.1, fun hm => (List.mem_cons.mp (I1.stkSub p.1 hm)).elim P1.2.2.1 P1.2.2.2.1, P1.2.2.2.2⟩
  have e0 : Env0 G.P G.w G.K G.mg G.base Y.A Y.stack s1 H := by rw [← hP, ← hw, ← hK, ← hmg, ← hbs]; exact I1.env0
  have rc := names_run (k := k) (E := EF) (Q := Q) rfl hN lk hcd D.S hb hz hf nm F.bn hr hot hpin e0 b h.2
  rw [← hP, ← hw] at rc
  refine wpAny_call (codeAny_mono rc fun r s' hq => ?_)
  cases r with
  | error e =>
    obtain ⟨_, _, _, _, _, _, _, _, _, _, _, _, z⟩ := (show L2N.CX Y.prog Y.w Y.stack H s1 EF e s' from hq)
    exact z.elim
  | ok fl =>
    cases fl with
    | ret u => exact I1.after hq
    | next => exact False.elim hq
    | brk => exact False.elim hq
    | cont => exact False.elim hq
end
end Pw
/-! Pw28: ErrOk. -/
namespace Pw
open PySem PySem.Spec PyProof.Rows L2
theorem takes_len {X : Cx} {Wx : WX} (t : L2N.Takes X Wx) : L2N.Takes X (fun cls d σ H => σ.length = X.N.length → Wx cls d σ H) := fun u s' ⟨a, B, sI, pins, σ, H, cls, d, e, I, nb, up, sky, na, os, ag, w⟩ =>
  t u s' ⟨a, B, sI, pins, σ, H, cls, d, e, I, nb, up, sky, na, os, ag, w I.len⟩
section
variable {G : Gr} {φ η : List Addr} {H H' : Hp} {S : PSt}
theorem ext_of (k : ∀ a o, H a = some o → NT o → H' a = some o) : Ext φ φ H H' := ⟨⟨[], by simp, by simp⟩, fun a o e _ t => k a o e t, fun a o e t => ⟨o, k a o e t, t⟩⟩
theorem StRep.grow (hs : StRep G φ η H S) (k : ∀ a o, H a = some o → NT o → H' a = some o) (t : LamX.Tabs G.Ts H') : StRep G φ η H' S :=
  ⟨fun a ha => let ⟨o, e, t⟩ := hs.hid a ha; ⟨o, k a o e t, t⟩, hs.nd, hs.len, fun n o a e1 e2 => (hs.objs n o a e1 e2).mono (ext_of k) fun vs e => k a _ e .lst, t⟩
theorem Tab.in {W : Row} {d : Nat} (t : Tab G W d) : Tab G W.in d := ⟨t.okF, t.okX, t.fn, t.bn, t.mw, t.xc⟩
theorem strOk_told (c : XC) : PyData.strOk c.told = true := by cases c <;> decide +kernel
theorem lam_cz {W : Row} {d : Nat} {N : List PySem.Str} {sc ls : Scope} {E E' : XK} {X : Cx} (c : Cz G W d N sc E X) (L : LamX.LamS X.env.scope ls) {A : Around} {outer : List PySem.Env} {s : Shared} {f c' : Addr} (hr : Room (4 * d + 1) (A.deeper (LamX.lamEnv X ls s.heap.objs.size f c'))) : Cz G W.in d N ls E' (lamN X A outer s H E' ls f c') := by
  have tk : L2N.Takes (lamN X A outer s H E' ls f c') (fun cls d _ H => E' cls d H) := L2N.takes_of rfl rfl rfl rfl
  constructor
  case hP => exact c.hP
  case hw => exact c.hw
  case hK => exact c.hK
  case hmg => exact c.hmg
  case hb => exact c.hb
  case hN => exact c.hN
  case nd => exact c.nd
  case hsc => rfl
  case kind => exact L.kind
  case calm => rfl
  case room => exact hr
  case pass => exact L2N.passes_call tk fun _ _ _ _ h => h
  case tab => exact c.tab.in
  case cod => exact .inl rfl
def tbE (G : Gr) (rb : Pw.Env → PSt → R PV) (σX : L2.St) (f c' : Addr) (q : PySem.Str) : WX → TS := fun Wx D σ2 H2 => ∃ Ech : XK, (∀ cls d σ' H', σ'.length = 2 → Ech cls d H' → Wx cls d σ' H') ∧ σ2[0]? = some (some (.ref f)) ∧ H2 c' = some (LamX.CodeO c' q) ∧ TEv G Ech rb σX H2 (fun _ H' => D.nx σ2 H')
def tsE (G : Gr) : Addr → Value → Option Addr → TS := fun ax cls dd D σ H => ∃ c0 C, G.mg c0.py = some (.ref C) ∧ cls = .ref C ∧ G.okX c0 = true ∧ dd = none ∧ σ[1]? = some (some (.ref ax)) ∧ ∀ H', (∀ k o, H k = some o → H' k = some o) → D.rt (.str c0.told) H'
theorem err_ok {W0 : Row} (F : ErrF G W0) (d : Nat) : ErrOk G d := by
  intro W N sc E X ls b x p q p2 rb c hlam hx hgl hls hbody
  subst hx
  have L : LamX.LamS X.env.scope ls := by rw [c.hsc]; exact LamX.lamS_by hls
  obtain ⟨cc, P, e1, TB, m1, m2⟩ := c.cod.resolve_left (by rw [hlam]; exact Bool.false_ne_true)
  obtain ⟨g, bg, sg, Dg, hb⟩ := F.err
  obtain ⟨pg, oc, od, dV, kV, doc, pm, an, cdv, ct, osl, lk, hcg, hbi⟩ := Dg.ex
  obtain ⟨CP, mCP, hCP⟩ := F.pan
  refine ⟨fun pins s σ H Q I h => ?_⟩
  obtain ⟨φ, η, ρ, S, hs, hρ, hp⟩ := h
  refine wpAny_Call_Name_kw (ld_glob I (gl_of c.hsc hgl) (u := .ref g) (by rw [c.hmg]; exact Dg.mg) ?_ rfl)
  refine PySem.W.callWith_K (h₀ := X.base) I.ok.mod.kin (by rw [c.hK]; exact Dg.kp) ?_ (by rfl) (by rfl)
  show wpAny _ _ (spliced ((false, eval (.Lambda ⟨[], [], none, [], [], none, []⟩ b ls q) X.env) :: backTo p2 (starEach [] X.env))) _ _ s
  refine Calls.spliced_cons (LamX.lam_make2 I (by rw [c.hb, c.hmg]; exact TB) e1 m1 m2 hs.tabs rfl (L.has I.ok) fun f c' pm' ctv H1 s' I1 eN T1 hf hfn hfr hco => ?_)
  refine Calls.spliced_nil ⟨I1.kIn, ?_⟩
  have x1 : Ext φ φ H H1 := ext_of eN
  have hs1 : StRep G φ η H1 S := hs.grow eN T1
  have hρ1 := hρ.mono x1
  have hp1 := hp.ext x1
  have hroom : Room (4 * d + 2 + 1) X.A := by
    have := c.room
    rw [hlam] at this
    exact this
  have rc : codeAny (model X.prog X.w) X.A (.call (.ref g) ⟨[.ref f], []⟩) (CR (L2N.CX X.prog X.w) X.stack X.prog X.w H1 s' Q EF) s' := by
    refine LamX.run_ofS (N := ["call", "e"]) (ps := ["call"]) (us := [.ref f]) (vs := [.ref f]) (by rw [c.hK]; exact lk) (by rw [c.hK]; exact hcg) Dg.S hroom I1.env0 (by have := hbi s' [.ref f] (by rw [← c.hK]; exact I1.kIn) rfl; rw [List.append_nil] at this; exact this) (.cons rfl .nil) rfl fun hr' => ?_
    unfold hErr at hb
    split at hb
    · rename_i a q1 q2 q3 px q4 en nx q5 e2 q6 q7 q8 q9 q10 zz kk q11 q12
      simp only [Bool.and_eq_true, decide_eq_true_eq] at hb
      obtain ⟨⟨⟨⟨⟨⟨⟨⟨⟨⟨⟨⟨⟨b1, b2⟩, b3⟩, b4⟩, b5⟩, b6⟩, b7⟩, b8⟩, b9⟩, b10⟩, b11⟩, b12⟩, b13⟩, b14⟩ := hb
      subst b1 b4 b7 b10 b13 b14
      have vis : ∀ x : PySem.Str, visB sg x = true → Vis sg x := fun x hx => by
        unfold visB at hx
        split at hx
        · exact .inl (by assumption)
        · exact .inr (.inl (by assumption))
        · exact .inr (.inr (by assumption))
        · cases hx
      have glo : ∀ x : PySem.Str, glB sg x = true → sg.names.lookup x = some .globalImplicit := fun x hx => by
        unfold glB at hx
        split at hx
        · assumption
        · cases hx
      have lce : sg.names.lookup ("e" : PySem.Str) = some NameKind.local := by
        unfold lclB at b8
        split at b8
        · assumption
        · cases b8
      generalize hX1 : cxOf (L2N.CX X.prog X.w) X.prog X.w X.K X.mg X.base ["call", "e"] "_law_error" sg g cdv X.A X.stack s' H1 EF = X1
      have tk0 : L2N.Takes X1 (fun cls d _ H => EF cls d H) := by subst hX1; exact L2N.takes_of rfl rfl rfl rfl
      have try1 : L2.PS X1 (.Try [.Expr (.Call (.Name "call" q1) [] [] q2) q3] [.ExceptHandler (some (.Name "PanelError" q4)) (some "e") [.Return (some (.Call (.Name "_law_names" q5) [.Name "e" q6] [] q7)) q8] q9] [] [] q10)
          (fun D σ2 H2 => tbE G rb σ f c' (X.env.qual ++ "<lambda>") (L2.wAs X1.K (.ref CP) 1 (tsE G) (fun cls d _ H => EF cls d H) D) D σ2 H2) := by
        subst hX1
        refine L2N.ps_try_as (tb := tbE G rb σ f c' (X.env.qual ++ "<lambda>")) (ts := tsE G) (X := cxOf (L2N.CX X.prog X.w) X.prog X.w X.K X.mg X.base ["call", "e"] "_law_error" sg g cdv X.A X.stack s' H1 EF) (x := "PanelError") (n := "e") (i := 1) (c := .ref CP) rfl rfl Dg.S.nd rfl lce ⟨glo _ b5, (nm_parts b6).1, .inl (by rw [c.hmg]; exact mCP)⟩ tk0 (fun Wx pn xe tk' _ => ?_) (fun ax oe cls dd pn hz hf' => ?_)
        · refine ⟨fun pins2 s2 σ2 H2 D I2 h2 => ?_⟩
          obtain ⟨Ech, hW, g1, g2, g3⟩ := h2
          have hpe := pe_actN (tb := TEv G Ech rb) (i := 0) (p1 := q1) (p2 := q2) I1 L hf hfn hfr (by rfl) (takes_len tk') (fun cls d σ' H' ec hl => hW cls d σ' H' hl ec) hr' (fun A outer s H hr2 => hbody Ech _ (lam_cz c L hr2)) (by rfl) (vis _ b2) (nm_parts b3).1 (nm_parts b3).2.1
          exact (pss_one (ps_expr (pos := q3) hpe rfl)).run pins2 s2 σ2 H2 D I2 ⟨g1, g2, g3⟩
        · refine ⟨fun pins2 s2 σ2 H2 D I2 h2 => ?_⟩
          obtain ⟨c0, C, m0, ec, ok0, ed, sl, fin⟩ := h2
          subst ec ed
          obtain ⟨vs, hv⟩ := hf'
          have nm := (hCP c0 ok0 C m0).1
          have hot : L2H.Hot1 (X.A.deeper (envOfC "_law_error" sg s'.heap.objs.size g cdv) |>.mark (some (.ref ax))) (ax, oe) := ⟨rfl, vs, hv, hz.2.2 vs hv⟩
          have hpe := pe_names (c := c0) (C := C) (p := (ax, oe)) (Y := (cxOf (L2N.CX X.prog X.w) X.prog X.w X.K X.mg X.base ["call", "e"] "_law_error" sg g cdv X.A X.stack s' H1 EF).suite ax ((ax, oe) :: pn)) F c.hP c.hw c.hK c.hmg c.hb List.mem_cons_self hot hz.zc ⟨vs, hv⟩ nm ⟨4 * d + 1, ⟨hr'.dp, hr'.un⟩⟩ (j := 1) (e := "e") (by rfl) (.inl lce) (nm_parts b9).1 (nm_parts b9).2.1 (glo _ b11) (p1 := q5) (p2 := q6) (p3 := q7)
          exact (pss_one (ps_ret (pos := q8) hpe)).run pins2 s2 σ2 H2 D I2 ⟨sl, fin⟩
      refine ⟨_, pss_cons try1 (pss_one (ps_ret pe_str)), ?_⟩
      have hK1 : X1.K = X.K := by subst hX1; rfl
      refine ⟨fun cls dd H' => ∃ c0 C, G.mg c0.py = some (.ref C) ∧ cls = .ref C ∧ G.okX c0 = true ∧ dd = none ∧ ∀ H'', (∀ k o, H' k = some o → H'' k = some o) → Q (.str c0.told) H'', fun cls dd σ' H' hl hE => ?_, rfl, hco, φ, η, ρ, S, hs1, hρ1, ?_⟩
      · obtain ⟨c0, C, m0, ec, ok0, ed, fin⟩ := hE
        refine ⟨true, by rw [hK1, c.hK, ec]; exact (hCP c0 ok0 C m0).2, fun _ ax na => ⟨c0, C, m0, ec, ok0, ed, by rw [List.getElem?_set_self (by rw [hl]; decide)], fin⟩, fun z => by cases z⟩
      · have hp2 : Post G (relV G) E φ η H1 Q (match rb ρ S with
          | .ok _ S => .ok (.str Str.empty) S
          | .exc c _ S => .ok (.str c.told) S
          | .err => .err) := hp1
        cases hr2 : rb ρ S with
        | ok v S' =>
          rw [hr2] at hp2
          exact fun φ' H' u x hs' _ => hp2 φ' H' (.str Str.empty) x hs' ⟨rfl, by decide +kernel⟩
        | exc c0 vs S' =>
          rw [hr2] at hp2
          intro φ' H' cls dd x hs' xr
          obtain ⟨C, m0, ec, ok0, ed⟩ := xr
          refine ⟨c0, C, m0, ec, ok0, ed, fun H'' k => hp2 φ' H'' (.str c0.told) (x.trans (ext_of fun a o e _ => k a o e)) (hs'.grow (fun a o e _ => k a o e) (hs'.tabs.ext k)) ⟨rfl, strOk_told c0⟩⟩
        | err => rw [hr2] at hp2; exact hp2
    · cases hb
  refine wpAny_call (codeAny_mono rc fun r s2 hq => ?_)
  cases r with
  | error e =>
    obtain ⟨_, _, _, _, _, _, _, _, _, _, _, _, z⟩ := (show L2N.CX X.prog X.w X.stack H1 s' EF e s2 from hq)
    exact z.elim
  | ok fl =>
    cases fl with
    | ret u => exact I1.after hq
    | next => exact False.elim hq
    | brk => exact False.elim hq
    | cont => exact False.elim hq
end
end Pw
/-! Pw29: from a row's facts to Tab. -/
namespace Pw
open PySem PySem.Spec PyProof.Rows L2
structure FnRow (G : Gr) (W : Row) (f : F) (a : Addr) (fd : FuncData) (ps : List PySem.Str) : Prop where
  ex : ∃ (N : List PySem.Str) (params : Arguments) (body : List Stmt) (sc : Scope) (lam : Bool), FunD G.K f.py f.py params body sc [] [] a fd ∧ FnScope N ps sc ∧ (G.T f).nat = none ∧ ps.length = (G.T f).np ∧ N.length = (G.T f).nl ∧
    mSs (if lam = true then W.in else W) N sc (G.T f).body body = true ∧ (lam = true ∨ ∀ cdv oc od dV kV doc pm ct an osl, fd = PySem.W.fnOf f.py f.py params body sc dV kV doc pm an cdv ct → G.K.lookup a = some ⟨oc, od, .func fd, osl⟩ → CodOk G cdv (f.py ++ ".<locals>."))
structure RowOk (G : Gr) (W : Row) : Prop where
  okF : ∀ f, W.okF f = true → G.okF f = true
  okX : ∀ c, W.okX c = true → G.okX c = true
  fn : ∀ f, G.okF f = true → ∃ (a : Addr) (fd : FuncData) (ps : List PySem.Str), G.mg f.py = some (.ref a) ∧ PySem.W.keepIn G.K (.ref a) = true ∧ Binds G.K fd ps [] ∧ (FnRow G W f a fd ps ∨ ∀ d, FnOk G.P G.w G.K G.mg G.base (L2N.CX G.P G.w) (4 * (d + 1)) a fd ps (spOf G (d + 1) f))
  bn : ∀ x, W.bn.contains x = true → G.mg x = none
  mw : ∃ t, G.mg "MOST_WIDE" = some (.int 1000000 t)
  xc : ∀ c : XC, W.okX c = true → ∃ a, G.mg c.py = some (.ref a) ∧ PySem.W.keepIn G.K (.ref a) = true ∧ PySem.W.subIn G.K (.ref a) (.type "BaseException") = some true ∧ PySem.W.typeIn G.K (.ref a) = some (.type "type") ∧ (plainX c = true → PySem.W.excIn G.K a [.type "ValueError", .type "Exception", .type "BaseException", .type "object"] "ValueError.__new__" = true)
section
variable {G : Gr} {W : Row}
theorem sp_zero {f : F} {vs : List V} {H : Hp} {Q : VK} {E : XK} : ¬ spOf G 0 f vs H Q E := fun h => by
  obtain ⟨φ, η, S, ps, _, _, hp, _⟩ := h
  exact (hp : False)
theorem fnRow_ok {f : F} {a : Addr} {fd : FuncData} {ps : List PySem.Str} {d : Nat} (h : FnRow G W f a fd ps) (he : ErrOk G d) (tb : Tab G W d) : FnOk G.P G.w G.K G.mg G.base (L2N.CX G.P G.w) (4 * (d + 1)) a fd ps (spOf G (d + 1) f) := by
  obtain ⟨N, params, body, sc, lam, k1, k2, k3, k4, k5, k6, k7⟩ := h
  cases lam with
  | true => exact def_ok he tb.in k1 k2 k3 k4 k5 k6 (.inl rfl)
  | false => exact def_ok he tb k1 k2 k3 k4 k5 k6 (.inr fun oc od dV kV doc pm cdv ct an osl e1 e2 => (k7.resolve_left Bool.false_ne_true) cdv oc od dV kV doc pm ct an osl e1 e2)
theorem tab_all (R : RowOk G W) (he : ∀ d, ErrOk G d) : ∀ d, Tab G W d
  | 0 => ⟨R.okF, R.okX, fun f hf => by
      obtain ⟨a, fd, ps, h1, h2, h3, _⟩ := R.fn f hf
      exact ⟨a, fd, ps, h1, h2, h3, ⟨fun vs H Q E h => (sp_zero h).elim, fun A outer s H args us vs Q E _ _ _ _ h => (sp_zero h).elim⟩⟩, R.bn, R.mw, R.xc⟩
  | d + 1 => ⟨R.okF, R.okX, fun f hf => by
      obtain ⟨a, fd, ps, h1, h2, h3, h4⟩ := R.fn f hf
      refine ⟨a, fd, ps, h1, h2, h3, ?_⟩
      rcases h4 with h4 | h4
      · exact fnRow_ok h4 (he d) (tab_all R he d)
      · exact h4 d, R.bn, R.mw, R.xc⟩
end
end Pw
/-! Pw30: binding by position; the row's facts from the head. -/
namespace Pw
open PySem PySem.Spec PyProof.Rows L2
theorem fm_congr {α β : Type} (f g : α → Option β) : ∀ l : List α, (∀ a ∈ l, f a = g a) → l.filterMap f = l.filterMap g
  | [], _ => rfl
  | a :: l, h => by
    rw [List.filterMap_cons, List.filterMap_cons, h a List.mem_cons_self, fm_congr f g l fun b hb => h b (List.mem_cons_of_mem _ hb)]
theorem pb {α β : Type} (a : α) (f : α → Sem β) : ((pure a : Sem α) >>= f) = f a := rfl
theorem lookup_zip : ∀ (ns : List PySem.Str) (us : List Value), ns.Nodup → us.length = ns.length → (∀ n ∈ ns, ((ns.zip us).lookup n).isNone = false) ∧ ns.filterMap (fun n => ((ns.zip us).lookup n).map (n, ·)) = ns.zip us
  | [], us, _, _ => ⟨fun _ h => (by cases h), rfl⟩
  | n :: ns, [], _, h => by simp at h
  | n :: ns, u :: us, nd, h => by
    rw [List.nodup_cons] at nd
    obtain ⟨i1, i2⟩ := lookup_zip ns us nd.2 (by simpa using h)
    have e0 : (((n :: ns).zip (u :: us)).lookup n) = some u := by simp [List.zip_cons_cons, List.lookup_cons]
    have e1 : ∀ m ∈ ns, (((n :: ns).zip (u :: us)).lookup m) = (ns.zip us).lookup m := fun m hm => by
      have : (m == n) = false := by
        rw [beq_eq_false_iff_ne]
        intro z
        exact nd.1 (z ▸ hm)
      rw [List.zip_cons_cons, List.lookup_cons, this]
    refine ⟨fun m hm => ?_, ?_⟩
    · rcases List.mem_cons.mp hm with z | z
      · rw [z, e0]; rfl
      · rw [e1 m z]; exact i1 m z
    · rw [List.filterMap_cons, e0]
      have : ns.filterMap (fun m => (((n :: ns).zip (u :: us)).lookup m).map (m, ·)) = ns.filterMap (fun m => ((ns.zip us).lookup m).map (m, ·)) := by
        refine fm_congr _ _ _ fun m hm => ?_
        rw [e1 m hm]
      show (n, u) :: _ = _
      rw [this, i2]
      rfl
theorem bind_plain {fd : FuncData} {ns : List PySem.Str} {us : List Value} (h1 : fd.params.posonlyargs = []) (h2 : fd.params.args.map (·.arg) = ns) (h3 : fd.params.vararg = none) (h4 : fd.params.kwonlyargs = []) (h5 : fd.params.kwarg = none) (hd : fd.defaults = .none) (nd : ns.Nodup) (hl : us.length = ns.length) : bindArgs fd ⟨us, []⟩ = pure (ns.zip us) := by
  obtain ⟨q1, q2⟩ := lookup_zip ns us nd hl
  unfold bindArgs
  simp only [h1, h2, h3, h4, h5, hd]
  have e0 : seqItems? Value.none = (pure none : Sem (Option (Array Value))) := rfl
  have e1 : (ns.take ns.length).filter (fun n => ((ns.zip us).lookup n).isNone) = [] := by
    rw [List.take_length, List.filter_eq_nil_iff]
    intro n hn
    rw [q1 n hn]
    exact Bool.false_ne_true
  simp only [List.map_nil, List.nil_append, List.append_nil, List.forIn_nil, pb, e0]
  have e2 : ((none : Option (Array Value)).getD #[]).toList = [] := rfl
  rw [if_neg (by rw [hl]; simp)]
  simp only [e2, List.drop_nil, List.length_nil, Nat.sub_zero, e1]
  simp only [List.isEmpty_nil, Bool.not_true, Bool.false_eq_true, if_false, List.zip_nil_right, List.forIn_nil, pb]
  rw [q2]
/-! ### a row's defs as data -/
/-- a def of the row: its name, its statement, its names, its parameters, whether it makes no lambda -/
structure RD where
  f : F
  st : Stmt
  N : List PySem.Str
  ps : List PySem.Str
  lam : Bool
def RD.dd (r : RD) : He.DefD := ⟨(r.f.py, none), r.f.py, r.f.py, defArgs r.st, defBody r.st, defScope r.st, [], []⟩
/-- plain parameters -/
def plainP (a : Arguments) (ps : List PySem.Str) : Bool := a.posonlyargs.isEmpty && decide (a.args.map (·.arg) = ps) && a.vararg.isNone && a.kwonlyargs.isEmpty && a.kwarg.isNone && decide ps.Nodup
def RD.chk (W : Row) (T : F → PDef) (r : RD) : Bool := C8.scC r.N r.ps (defScope r.st) && plainP (defArgs r.st) r.ps && decide (r.ps.length = (T r.f).np) && ((T r.f).nat.isSome || (decide (r.N.length = (T r.f).nl) && mSs (if r.lam = true then W.in else W) r.N (defScope r.st) (T r.f).body (defBody r.st)))
theorem binds_of {x q : PySem.Str} {a : Arguments} {body : List Stmt} {sc : Scope} {ps : List PySem.Str} (h : plainP a ps = true) (kV doc pm : Value) (an : Option Addr) (cdv ct : Value) (us : List Value) (hl : us.length = ps.length) : bindArgs (PySem.W.fnOf x q a body sc .none kV doc pm an cdv ct) ⟨us, []⟩ = pure (ps.zip us) := by
  unfold plainP at h
  simp only [Bool.and_eq_true, decide_eq_true_eq, List.isEmpty_iff, Option.isNone_iff_eq_none] at h
  obtain ⟨⟨⟨⟨⟨h1, h2⟩, h3⟩, h4⟩, h5⟩, h6⟩ := h
  exact bind_plain (fd := PySem.W.fnOf x q a body sc .none kV doc pm an cdv ct) h1 h2 h3 h4 h5 rfl h6 hl
/-! ### what the head must tell of K besides -/
def nmB (K : PySem.W.Frag) (xs : List XC) (c : XC) : Bool :=
  let C := He.ga K c.py
  PySem.W.keepIn K (.ref C) && decide (PySem.W.subIn K (.ref C) (.type "BaseException") = some true) && decide (PySem.W.typeIn K (.ref C) = some (.type "type")) &&
  decide (PySem.W.findIn K (.ref C) "__getattribute__" = some (some (.builtin "BaseException.__getattribute__"))) && decide (PySem.W.findIn K (.ref C) "__getattr__" = some none) && PySem.W.hasDictIn K C && decide (PySem.W.findIn K (.ref C) "__class__" = some (some (.builtin "object.__class__"))) &&
  decide (PySem.W.specialIn K (.builtin "object.__class__") "__get__" = some (some (.builtin "getset_descriptor.__get__"))) && decide (PySem.W.takesIn K (.builtin "object.__class__") = some true) && decide (PySem.W.mroIn K C (.type "object") = some true) &&
  (xs.all fun k => decide (PySem.W.kitOne K (.ref C) (.ref (He.ga K k.py)) = some (decide (c = k)))) && decide (PySem.W.kitOne K (.ref C) (.type "ValueError") = some true) && decide (PySem.W.exmOne K (.ref C) (.ref (He.ga K "PanelError")) = some true) &&
  (!plainX c || PySem.W.excIn K C He.veBase "ValueError.__new__")
end Pw
/-! Pw31: a law's end from the head's facts. -/
namespace Pw
open PySem PySem.Spec PyProof.Rows L2
/-- a row's data -/
structure RowD where
  l : PySem.W.OpenLaw
  T : F → PDef
  rds : List RD
  xs : List XC
  bn : List PySem.Str
  errSt : Stmt
  namSt : Stmt
  namN : List PySem.Str
namespace RowD
variable (r : RowD)
def row : Row := ⟨fun f => r.rds.any fun d => decide (d.f = f), fun c => r.xs.contains c, r.bn, false⟩
def defE (x : PySem.Str) (st : Stmt) : He.DefD := ⟨(x, none), x, x, defArgs st, defBody st, defScope st, [], []⟩
def fn : List He.DefD := defE "_law_error" r.errSt :: defE "_law_names" r.namSt :: r.rds.map RD.dd
def fa : List He.Fa := .glo "_law_error" :: .glo "_law_names" :: .int "MOST_WIDE" 1000000 :: .glo "PanelError" :: (r.rds.map (fun d => .glo d.f.py) ++ (r.xs.map (fun c => .glo c.py) ++ r.bn.map .free))
def tf : List He.Defn := (r.rds.filter fun d => !d.lam).map fun d => (d.f.py, none)
def ex (K : PySem.W.Frag) : Bool := (r.xs.all (nmB K r.xs)) && r.tf.all fun p => r.tf.all fun q => decide (p = q) || !decide ((He.cT K p).2 = (He.cT K q).2)
/-- what the kernel is asked of the text -/
def ok : Bool := r.rds.all (RD.chk r.row r.T) && C8.scC ["call", "e"] ["call"] (defScope r.errSt) && plainP (defArgs r.errSt) ["call"] && hErr (defScope r.errSt) (defBody r.errSt) &&
  C8.scC r.namN ["e"] (defScope r.namSt) && plainP (defArgs r.namSt) ["e"] && decide (r.namN.length = 5) && hNames r.row r.namN (defScope r.namSt) (defBody r.namSt)
end RowD
section
variable (r : RowD) (w : World) (K : PySem.W.Frag) (mg : PySem.Str → Option Value)
def tsOf (K : PySem.W.Frag) (tf : List He.Defn) : List (Addr × PySem.Str) := tf.map fun p => ((He.cT K p).2, p.1 ++ ".<locals>." ++ "<lambda>")
def grOf (base : Heap) : Gr := ⟨r.l.prog, w, K, mg, base, tsOf K r.tf, r.T, fun f => r.rds.any fun d => decide (d.f = f), fun c => r.xs.contains c⟩
end
section
variable {r : RowD} {w : World} {K : PySem.W.Frag} {mg : PySem.Str → Option Value} {h : Heap}
theorem binds_fd {x : PySem.Str} {a : Arguments} {body : List Stmt} {sc : Scope} {ps : List PySem.Str} {f : Addr} {fd : FuncData} (F : FunD K x x a body sc [] [] f fd) (hp : plainP a ps = true) : Binds K fd ps [] :=
  F.bindsN fun kV doc pm an cdv ct us hl => binds_of hp kV doc pm an cdv ct us hl
theorem defK_of {x : PySem.Str} {st : Stmt} {N ps : List PySem.Str} {base : Heap} (X : K.In h) (G : h.Ns mainGlobals mg) (c : He.SaysX r.fa r.fn [] r.tf r.ex w h K) (hg : He.Fa.glo x ∈ r.fa) (hf : RowD.defE x st ∈ r.fn) (hs : C8.scC N ps (defScope st) = true) (hp : plainP (defArgs st) ps = true) :
    DefK (grOf r w K mg base) x N ps (He.ga K x) (defBody st) (defScope st) := by
  obtain ⟨fd, F⟩ := c.t.d.defs hf
  have b := binds_fd F hp
  obtain ⟨oc, od, dV, kV, doc, pm, an, cdv, ct, osl, rfl, lk, hcd, _, _⟩ := F.ex
  exact ⟨He.glo_ok X G (c.t.d.facts hg), F.kp, C8.fnScope_by hs, _, oc, od, dV, kV, doc, pm, an, cdv, ct, osl, lk, hcd, b⟩
theorem nmB_ok {xs : List XC} {cc : XC} (X : K.In h) (G : h.Ns mainGlobals mg) (hglo : ∀ k ∈ xs, mg k.py = some (.ref (He.ga K k.py))) (e : nmB K xs cc = true) {Gr0 : Gr} (hK : Gr0.K = K) (hmg : Gr0.mg = mg) :
    NmF Gr0 (fun c => xs.contains c) cc (He.ga K cc.py) ∧ PySem.W.exmOne K (.ref (He.ga K cc.py)) (.ref (He.ga K "PanelError")) = some true ∧ PySem.W.keepIn K (.ref (He.ga K cc.py)) = true ∧ PySem.W.subIn K (.ref (He.ga K cc.py)) (.type "BaseException") = some true ∧
      PySem.W.typeIn K (.ref (He.ga K cc.py)) = some (.type "type") ∧ (plainX cc = true → PySem.W.excIn K (He.ga K cc.py) He.veBase "ValueError.__new__" = true) := by
  subst hK hmg
  unfold nmB at e
  simp only [Bool.and_eq_true, decide_eq_true_eq, Bool.or_eq_true, Bool.not_eq_true'] at e
  obtain ⟨⟨⟨⟨⟨⟨⟨⟨⟨⟨⟨⟨⟨e1, e2⟩, e3⟩, e4⟩, e5⟩, e6⟩, e7⟩, e8⟩, e9⟩, e10⟩, e11⟩, e12⟩, e13⟩, e14⟩ := e
  refine ⟨⟨⟨e4, e5, e2, e6, e7, e8, e9, e10⟩, fun k hk => ?_, e12⟩, e13, e1, e2, e3, fun hp => ?_⟩
  · have hk : k ∈ xs := by simpa using hk
    exact ⟨_, hglo k hk, by have := List.all_eq_true.mp e11 k hk; simpa using this⟩
  · rcases e14 with z | z
    · rw [hp] at z; cases z
    · exact z
/-- natives of the row keep their promises -/
def NatOk (r : RowD) : Prop := ∀ (w : World) (K : PySem.W.Frag) (mg : PySem.Str → Option Value) (base : Heap) (d : RD) (fd : FuncData), d ∈ r.rds → (r.T d.f).nat.isSome = true → K.In base → base.Ns mainGlobals mg → FunD K d.f.py d.f.py (defArgs d.st) (defBody d.st) (defScope d.st) [] [] (He.ga K d.f.py) fd → FnScope d.N d.ps (defScope d.st) → (∀ x ∈ r.bn, mg x = none) →
  ∀ n, FnOk r.l.prog w K mg base (L2N.CX r.l.prog w) (4 * (n + 1)) (He.ga K d.f.py) fd d.ps (spOf (grOf r w K mg base) (n + 1) d.f)
theorem fnRow_of (hok : r.ok = true) (X : K.In h) (Gn : h.Ns mainGlobals mg) (c : He.SaysX r.fa r.fn [] r.tf r.ex w h K) {d : RD} (hd : d ∈ r.rds) (hnt : (r.T d.f).nat = none) {fd : FuncData} (F : FunD K d.f.py d.f.py (defArgs d.st) (defBody d.st) (defScope d.st) [] [] (He.ga K d.f.py) fd) {base : Heap} (TB : ∀ p ∈ r.tf, LamX.TabB base mg (He.cT K p).1 (He.cT K p).2) :
    FnRow (grOf r w K mg base) r.row d.f (He.ga K d.f.py) fd d.ps := by
  unfold RowD.ok at hok
  simp only [Bool.and_eq_true, decide_eq_true_eq] at hok
  obtain ⟨⟨⟨⟨⟨⟨⟨hr, _⟩, _⟩, _⟩, _⟩, _⟩, _⟩, _⟩ := hok
  have hex := c.more
  unfold RowD.ex at hex
  rw [Bool.and_eq_true] at hex
  obtain ⟨hx, ht⟩ := hex
  have hc := List.all_eq_true.mp hr d hd
  unfold RD.chk at hc
  simp only [Bool.and_eq_true, decide_eq_true_eq, Bool.or_eq_true] at hc
  obtain ⟨⟨⟨hc1, hc2⟩, hc3⟩, hc4⟩ := hc
  rw [hnt] at hc4
  have hc4 := hc4.resolve_left (by simp)
  refine ⟨d.N, _, _, _, d.lam, F, C8.fnScope_by hc1, hnt, hc3, hc4.1, hc4.2, ?_⟩
  cases hl : d.lam with
  | true => exact .inl rfl
  | false =>
    refine .inr fun cdv oc od dV kV doc pm ct an osl e1 lk => ?_
    have hp : ((d.f.py, none) : He.Defn) ∈ r.tf := by unfold RowD.tf; exact List.mem_map.mpr ⟨d, List.mem_filter.mpr ⟨hd, by rw [hl]; rfl⟩, rfl⟩
    obtain ⟨oc2, od2, dV2, kV2, doc2, pm2, an2, cdv2, ct2, osl2, e2, lk2, hcd2, _, _⟩ := F.ex
    have ecd : cdv2 = cdv := by
      have : (PySem.W.fnOf d.f.py d.f.py (defArgs d.st) (defBody d.st) (defScope d.st) dV2 kV2 doc2 pm2 an2 cdv2 ct2).code = (PySem.W.fnOf d.f.py d.f.py (defArgs d.st) (defBody d.st) (defScope d.st) dV kV doc pm an cdv ct).code := by rw [← e1, ← e2]
      exact this
    obtain ⟨cc, ec⟩ := He.codeIn_ref hcd2
    subst ecd
    have eo : He.codeOf K (d.f.py, none) = cc := He.codeOf_eq (p := (d.f.py, none)) lk2 (by rw [e2]; exact ec)
    refine ⟨cc, (He.cT K (d.f.py, none)).2, ec, ?_, List.mem_map.mpr ⟨_, hp, rfl⟩, fun p hp' ep => ?_⟩
    · have tb := TB _ hp
      have : (He.cT K (d.f.py, none)).1 = cc := eo
      rw [this] at tb
      exact tb
    · obtain ⟨q, hq, rfl⟩ := List.mem_map.mp hp'
      have z := List.all_eq_true.mp (List.all_eq_true.mp ht q hq) _ hp
      simp only [Bool.or_eq_true, decide_eq_true_eq, Bool.not_eq_true', decide_eq_false_iff_not] at z
      rcases z with z | z
      · rw [z]
      · exact absurd ep z
theorem rowOk_of (hok : r.ok = true) (hnat : NatOk r) (X : K.In h) (Gn : h.Ns mainGlobals mg) (c : He.SaysX r.fa r.fn [] r.tf r.ex w h K) {base : Heap} (Xb : K.In base) (Gb : base.Ns mainGlobals mg) (TB : ∀ p ∈ r.tf, LamX.TabB base mg (He.cT K p).1 (He.cT K p).2) :
    RowOk (grOf r w K mg base) r.row ∧ ErrF (grOf r w K mg base) r.row := by
  have hok' := hok
  unfold RowD.ok at hok
  simp only [Bool.and_eq_true, decide_eq_true_eq] at hok
  obtain ⟨⟨⟨⟨⟨⟨⟨hr, he1⟩, he2⟩, he3⟩, hn1⟩, hn2⟩, hn3⟩, hn4⟩ := hok
  have hex := c.more
  unfold RowD.ex at hex
  rw [Bool.and_eq_true] at hex
  obtain ⟨hx, ht⟩ := hex
  have hglo : ∀ k ∈ r.xs, mg k.py = some (.ref (He.ga K k.py)) := fun k hk => He.glo_ok X Gn (c.t.d.facts (by unfold RowD.fa; exact List.mem_cons_of_mem _ (List.mem_cons_of_mem _ (List.mem_cons_of_mem _ (List.mem_cons_of_mem _ (List.mem_append_right _ (List.mem_append_left _ (List.mem_map.mpr ⟨k, hk, rfl⟩))))))))
  have hbn : ∀ x ∈ r.bn, mg x = none := fun x hx => He.free_ok X Gn (c.t.d.facts (by unfold RowD.fa; exact List.mem_cons_of_mem _ (List.mem_cons_of_mem _ (List.mem_cons_of_mem _ (List.mem_cons_of_mem _ (List.mem_append_right _ (List.mem_append_right _ (List.mem_map.mpr ⟨x, hx, rfl⟩))))))))
  have hbn' : ∀ x, r.row.bn.contains x = true → mg x = none := fun x hx => hbn x (by simpa [RowD.row] using hx)
  have hnm : ∀ cc, r.xs.contains cc = true → _ := fun cc hcc => nmB_ok (cc := cc) (Gr0 := grOf r w K mg base) X Gn hglo (List.all_eq_true.mp hx cc (by simpa using hcc)) rfl rfl
  refine ⟨⟨fun f hf => hf, fun c hc => hc, fun f hf => ?_, hbn', ?_, fun cc hcc => ?_⟩, ⟨?_, ?_, fun c hc => hc, ?_, hbn'⟩⟩
  · obtain ⟨d, hd, ef⟩ := List.any_eq_true.mp hf
    have ef : d.f = f := of_decide_eq_true ef
    subst ef
    have hdf : d.dd ∈ r.fn := by unfold RowD.fn; exact List.mem_cons_of_mem _ (List.mem_cons_of_mem _ (List.mem_map.mpr ⟨d, hd, rfl⟩))
    obtain ⟨fd, F⟩ := c.t.d.defs hdf
    have F : FunD K d.f.py d.f.py (defArgs d.st) (defBody d.st) (defScope d.st) [] [] (He.ga K d.f.py) fd := F
    have hc := List.all_eq_true.mp hr d hd
    unfold RD.chk at hc
    simp only [Bool.and_eq_true, decide_eq_true_eq, Bool.or_eq_true] at hc
    obtain ⟨⟨⟨hc1, hc2⟩, hc3⟩, hc4⟩ := hc
    have hg : mg d.f.py = some (.ref (He.ga K d.f.py)) := He.glo_ok X Gn (c.t.d.facts (by unfold RowD.fa; exact List.mem_cons_of_mem _ (List.mem_cons_of_mem _ (List.mem_cons_of_mem _ (List.mem_cons_of_mem _ (List.mem_append_left _ (List.mem_map.mpr ⟨d, hd, rfl⟩)))))))
    refine ⟨He.ga K d.f.py, fd, d.ps, hg, F.kp, binds_fd F hc2, ?_⟩
    cases hnt : (r.T d.f).nat with
    | some g => exact .inr (hnat w K mg base d fd hd (by rw [hnt]; rfl) Xb Gb F (C8.fnScope_by hc1) hbn)
    | none => exact .inl (fnRow_of hok' X Gn c hd hnt F TB)
  · exact He.int_ok X Gn (c.t.d.facts (f := .int "MOST_WIDE" 1000000) (by unfold RowD.fa; exact List.mem_cons_of_mem _ (List.mem_cons_of_mem _ List.mem_cons_self)))
  · obtain ⟨h1, h2, h3, h4, h5, h6⟩ := hnm cc hcc
    exact ⟨_, hglo cc (by simpa [RowD.row] using hcc), h3, h4, h5, h6⟩
  · exact ⟨_, _, _, defK_of (st := r.errSt) X Gn c (by unfold RowD.fa; exact List.mem_cons_self) (by unfold RowD.fn; exact List.mem_cons_self) he1 he2, he3⟩
  · exact ⟨_, _, _, r.namN, defK_of (st := r.namSt) X Gn c (by unfold RowD.fa; exact List.mem_cons_of_mem _ List.mem_cons_self) (by unfold RowD.fn; exact List.mem_cons_of_mem _ List.mem_cons_self) hn1 hn2, hn3, hn4⟩
  · refine ⟨He.ga K "PanelError", He.glo_ok X Gn (c.t.d.facts (by unfold RowD.fa; exact List.mem_cons_of_mem _ (List.mem_cons_of_mem _ (List.mem_cons_of_mem _ List.mem_cons_self)))), fun cc hcc C hC => ?_⟩
    obtain ⟨h1, h2, _⟩ := hnm cc hcc
    have hC : mg cc.py = some (.ref C) := hC
    rw [hglo cc (by simpa [grOf] using hcc)] at hC
    cases hC
    exact ⟨h1, h2⟩
/-- the law's end -/
theorem law_at (hok : r.ok = true) (hnat : NatOk r) {dl : RD} (hl : dl ∈ r.rds) (hpy : dl.f.py = "law") (hps : dl.ps = [("script" : PySem.Str)]) (hnl : (r.T dl.f).nat = none) {D : Nat} (hlaw : ∀ ns : List Int, ns.length ≤ 63 → (∀ z ∈ ns, Builtin.Int.intBits z ≤ 1048576) → ∃ S', run r.T (D + 1) dl.f [.scr ns] [] = .ok (.bl true) S')
    {fA : Addr} (X : K.In h) (Gn : h.Ns mainGlobals mg) (c : He.SaysX r.fa r.fn [] r.tf r.ex w h K) (hfa : mg "law" = some (.ref fA)) : LamX.LawAtS r.l w K (L2N.CX r.l.prog w) (4 * (D + 1)) 63 "script" mg fA h := by
  have hdf : dl.dd ∈ r.fn := by unfold RowD.fn; exact List.mem_cons_of_mem _ (List.mem_cons_of_mem _ (List.mem_map.mpr ⟨dl, hl, rfl⟩))
  obtain ⟨fd, F⟩ := c.t.d.defs hdf
  have F : FunD K dl.f.py dl.f.py (defArgs dl.st) (defBody dl.st) (defScope dl.st) [] [] (He.ga K dl.f.py) fd := F
  have hok' := hok
  unfold RowD.ok at hok'
  simp only [Bool.and_eq_true, decide_eq_true_eq] at hok'
  have hc := List.all_eq_true.mp hok'.1.1.1.1.1.1.1 dl hl
  unfold RD.chk at hc
  simp only [Bool.and_eq_true, decide_eq_true_eq, Bool.or_eq_true] at hc
  obtain ⟨⟨⟨hc1, hc2⟩, hc3⟩, hc4⟩ := hc
  have hg : mg dl.f.py = some (.ref (He.ga K dl.f.py)) := He.glo_ok X Gn (c.t.d.facts (by unfold RowD.fa; exact List.mem_cons_of_mem _ (List.mem_cons_of_mem _ (List.mem_cons_of_mem _ (List.mem_cons_of_mem _ (List.mem_append_left _ (List.mem_map.mpr ⟨dl, hl, rfl⟩)))))))
  rw [hpy, hfa] at hg
  have eA : fA = He.ga K dl.f.py := by
    rw [hpy]
    cases hg
    rfl
  subst eA
  refine ⟨fd, r.tf.map (He.cT K), fun vs H Q E => ∀ base, spOf (grOf r w K mg base) (D + 1) dl.f vs H Q E, ?_, ?_, ?_, ?_, ?_, ?_⟩
  · intro p hp
    obtain ⟨q, hq, rfl⟩ := List.mem_map.mp hp
    exact c.empty q hq
  · intro p hp
    obtain ⟨q, hq, rfl⟩ := List.mem_map.mp hp
    exact c.out q hq
  · intro p hp
    obtain ⟨q, hq, rfl⟩ := List.mem_map.mp hp
    exact PySem.W.codeHd_of_K X (c.hd q hq)
  · intro s u
    have b := FunD.bindsA (ps := dl.ps) F (fun kV doc pm an cdv ct us hl => binds_of hc2 kV doc pm an cdv ct us hl) s [u] (by rw [hps]; rfl)
    rw [hps] at b
    exact b
  · intro H a ns hn hb hT hS base
    obtain ⟨S', e⟩ := hlaw ns hn hb
    refine ⟨[], [], [], [.scr ns], ⟨fun a ha => (by cases ha), List.nodup_nil, rfl, fun n o a e1 _ => (by simp at e1), fun p hp => ?_⟩, Reps.one ⟨a, rfl, ?_⟩, ?_, by show [PV.scr ns].length = (r.T dl.f).np; rw [← hc3, hps]; rfl⟩
    · obtain ⟨q, hq, rfl⟩ := List.mem_map.mp hp
      exact LamX.TabS.nil (hT _ (List.mem_map.mpr ⟨q, hq, rfl⟩))
    · rcases hS with z | z
      · exact .inl ⟨z, List.not_mem_nil, List.not_mem_nil⟩
      · exact .inr (.inr z)
    · show Post _ _ _ _ _ _ _ (run r.T (D + 1) dl.f [.scr ns] [])
      rw [e]
      exact fun φ' H' u _ _ ru => ru
  · intro base Xb Gb TB
    have TB' : ∀ p ∈ r.tf, LamX.TabB base mg (He.cT K p).1 (He.cT K p).2 := fun p hp => TB _ (List.mem_map.mpr ⟨p, hp, rfl⟩)
    obtain ⟨R, EF⟩ := rowOk_of hok hnat X Gn c Xb Gb TB'
    have fo := fnRow_ok (fnRow_of hok X Gn c hl hnl F TB') (err_ok EF D) (tab_all R (fun d => err_ok EF d) D)
    rw [hps] at fo
    exact fo.imp fun vs H Q E z => z base
end
end Pw
namespace Pw
open PySem
def d_is_whole : PDef := ⟨3, 3,
    (.cons (.ret (.and (.isi (.var 0) .int) (.and (.not (.isi (.var 0) .bool)) (.chain .le .le (.var 1) (.var 0) (.var 2)))))
    .nil), true, none⟩
def d_has_wardrobe : PDef := ⟨1, 1,
    (.cons (.ifs (.or (.not (.isi (.var 0) .tuple)) (.or (.cmp .ne (.blt .len (.cons (.var 0) .nil)) (.cst (.int 3))) (.not (.call .is_whole (.cons (.idx (.var 0) (.cst (.int 0))) (.cons (.cst (.int 1)) (.cons .mw .nil))))))) (.cons (.ret (.cst (.bl false)))
    .nil) .nil)
    (.cons (.ret (.and (.call .is_whole (.cons (.idx (.var 0) (.cst (.int 1))) (.cons (.cst (.int 1)) (.cons (.cst (.int 3)) .nil)))) (.call .is_whole (.cons (.idx (.var 0) (.cst (.int 2))) (.cons (.cst (.int 1)) (.cons (.cst (.int 3)) .nil))))))
    .nil)), true, none⟩
def d_doors_of : PDef := ⟨2, 3,
    (.cons (.asg (.nm 2) (.idx (.var 0) (.cst (.int 1))))
    (.cons (.ret (.ife (.cmp .eq (.var 1) (.cst (.int 0))) (.fl (.lr1 (.var 2))) (.fl (.lr2 (.var 2) (.bin .add (.var 2) (.idx (.var 0) (.cst (.int 2))))))))
    .nil)), true, none⟩
def d_is_lot : PDef := ⟨2, 4,
    (.cons (.ifs (.or (.not (.isi (.var 1) .tuple)) (.cmp .eq (.var 1) (.tup .nil))) (.cons (.ret (.cst (.bl false)))
    .nil) .nil)
    (.cons (.ifs (.cmp .ne (.fl (.comp [2] (.nm 2) (.val (.var 1)) (.not (.call .is_whole (.cons (.var 2) (.cons (.cst (.int 0)) (.cons (.bin .sub (.var 0) (.cst (.int 1))) .nil))))) (.var 2))) (.fl (.disp .nil))) (.cons (.ret (.cst (.bl false)))
    .nil) .nil)
    (.cons (.ret (.cmp .eq (.fl (.comp [3] (.nm 3) (.rng2 (.cst (.int 1)) (.blt .len (.cons (.var 1) .nil))) (.cmp .le (.idx (.var 1) (.var 3)) (.idx (.var 1) (.bin .sub (.var 3) (.cst (.int 1))))) (.var 3))) (.fl (.disp .nil))))
    .nil))), true, none⟩
def d_is_fact : PDef := ⟨2, 2,
    (.cons (.ifs (.or (.not (.isi (.var 1) .tuple)) (.or (.cmp .eq (.var 1) (.tup .nil)) (.not (.isi (.idx (.var 1) (.cst (.int 0))) .str)))) (.cons (.ret (.cst (.bl false)))
    .nil) .nil)
    (.cons (.ifs (.and (.cmp .eq (.idx (.var 1) (.cst (.int 0))) (.cst (.str "wider"))) (.cmp .eq (.blt .len (.cons (.var 1) .nil)) (.cst (.int 3)))) (.cons (.ret (.and (.call .is_lot (.cons (.var 0) (.cons (.idx (.var 1) (.cst (.int 1))) .nil))) (.and (.call .is_lot (.cons (.var 0) (.cons (.idx (.var 1) (.cst (.int 2))) .nil))) (.cmp .ne (.idx (.var 1) (.cst (.int 1))) (.idx (.var 1) (.cst (.int 2)))))))
    .nil) .nil)
    (.cons (.ifs (.or (.cmp .ne (.idx (.var 1) (.cst (.int 0))) (.cst (.str "sum"))) (.or (.cmp .ne (.blt .len (.cons (.var 1) .nil)) (.cst (.int 4))) (.not (.call .is_lot (.cons (.var 0) (.cons (.idx (.var 1) (.cst (.int 1))) .nil)))))) (.cons (.ret (.cst (.bl false)))
    .nil) .nil)
    (.cons (.ifs (.not (.call .is_whole (.cons (.idx (.var 1) (.cst (.int 2))) (.cons (.cst (.int 0)) (.cons .mw .nil))))) (.cons (.ret (.cst (.bl false)))
    .nil) .nil)
    (.cons (.ret (.or (.cmp .is (.idx (.var 1) (.cst (.int 3))) (.cst .non)) (.call .is_whole (.cons (.idx (.var 1) (.cst (.int 3))) (.cons (.idx (.var 1) (.cst (.int 2))) (.cons .mw .nil))))))
    .nil))))), true, none⟩
def d_has_facts : PDef := ⟨2, 4,
    (.cons (.ifs (.or (.not (.isi (.var 1) .tuple)) (.cmp .gt (.blt .len (.cons (.var 1) .nil)) (.cst (.int 6)))) (.cons (.ret (.cst (.bl false)))
    .nil) .nil)
    (.cons (.asg (.nm 2) (.bin .add (.idx (.var 0) (.cst (.int 1))) (.idx (.var 0) (.cst (.int 2)))))
    (.cons (.ret (.cmp .eq (.fl (.comp [3] (.nm 3) (.val (.var 1)) (.not (.call .is_fact (.cons (.var 2) (.cons (.var 3) .nil)))) (.var 3))) (.fl (.disp .nil))))
    .nil))), true, none⟩
def d_lowest : PDef := ⟨2, 4,
    (.cons (.par [2, 3] (.cons (.blt .abs (.cons (.var 0) .nil)) (.cons (.var 1) .nil)))
    (.cons (.whl (.cmp .gt (.var 3) (.cst (.int 0))) (.cons (.par [2, 3] (.cons (.var 3) (.cons (.bin .mod (.var 2) (.var 3)) .nil)))
    .nil))
    (.cons (.ret (.tup (.cons (.bin .fdiv (.var 0) (.var 2)) (.cons (.bin .fdiv (.var 1) (.var 2)) .nil))))
    .nil))), true, none⟩
def d_is_part : PDef := ⟨1, 2,
    (.cons (.ifs (.or (.not (.isi (.var 0) .tuple)) (.cmp .ne (.blt .len (.cons (.var 0) .nil)) (.cst (.int 2)))) (.cons (.ret (.cst (.bl false)))
    .nil) .nil)
    (.cons (.for_ (.nm 1) (.val (.var 0)) (.cons (.ifs (.or (.not (.isi (.var 1) .int)) (.or (.isi (.var 1) .bool) (.cmp .lt (.var 1) (.cst (.int 1))))) (.cons (.ret (.cst (.bl false)))
    .nil) .nil)
    .nil))
    (.cons (.ret (.cmp .eq (.call .lowest (.cons (.idx (.var 0) (.cst (.int 0))) (.cons (.idx (.var 0) (.cst (.int 1))) .nil))) (.var 0)))
    .nil))), true, none⟩
def d_total : PDef := ⟨2, 6,
    (.cons (.asg (.tp [(.nm 3), (.nm 4)]) (.tup (.cons (.cst (.int 0)) (.cons (.cst (.int 1)) .nil))))
    (.cons (.for_ (.nm 2) (.val (.var 1)) (.cons (.asg (.nm 5) (.idx (.var 0) (.var 2)))
    (.cons (.asg (.tp [(.nm 3), (.nm 4)]) (.call .lowest (.cons (.bin .add (.bin .mul (.var 3) (.idx (.var 5) (.cst (.int 1)))) (.bin .mul (.idx (.var 5) (.cst (.int 0))) (.var 4))) (.cons (.bin .mul (.var 4) (.idx (.var 5) (.cst (.int 1)))) .nil))))
    .nil)))
    (.cons (.ret (.tup (.cons (.var 3) (.cons (.var 4) .nil))))
    .nil))), true, none⟩
def d_at_most : PDef := ⟨2, 2,
    (.cons (.ret (.cmp .le (.idx (.var 0) (.cst (.int 0))) (.bin .mul (.var 1) (.idx (.var 0) (.cst (.int 1))))))
    .nil), true, none⟩
def d_has_widths : PDef := ⟨2, 4,
    (.cons (.ifs (.or (.not (.isi (.var 1) .tuple)) (.cmp .ne (.blt .len (.cons (.var 1) .nil)) (.bin .add (.idx (.var 0) (.cst (.int 1))) (.idx (.var 0) (.cst (.int 2)))))) (.cons (.ret (.cst (.bl false)))
    .nil) .nil)
    (.cons (.ifs (.cmp .ne (.fl (.comp [2] (.nm 2) (.val (.var 1)) (.not (.call .is_part (.cons (.var 2) .nil))) (.var 2))) (.fl (.disp .nil))) (.cons (.ret (.cst (.bl false)))
    .nil) .nil)
    (.cons (.ret (.cmp .eq (.fl (.comp [3] (.nm 3) (.val (.tup (.cons (.cst (.int 0)) (.cons (.cst (.int 1)) .nil)))) (.not (.call .at_most (.cons (.call .total (.cons (.var 1) (.cons (.call .doors_of (.cons (.var 0) (.cons (.var 3) .nil))) .nil))) (.cons (.idx (.var 0) (.cst (.int 0))) .nil)))) (.var 3))) (.fl (.disp .nil))))
    .nil))), true, none⟩
def d_is_shelf : PDef := ⟨2, 2,
    (.cons (.ifs (.or (.not (.isi (.var 1) .tuple)) (.or (.cmp .ne (.blt .len (.cons (.var 1) .nil)) (.cst (.int 2))) (.not (.call .is_whole (.cons (.idx (.var 1) (.cst (.int 0))) (.cons (.cst (.int 0)) (.cons (.bin .sub (.idx (.var 0) (.cst (.int 0))) (.cst (.int 1))) .nil))))))) (.cons (.ret (.cst (.bl false)))
    .nil) .nil)
    (.cons (.ret (.call .is_whole (.cons (.idx (.var 1) (.cst (.int 1))) (.cons (.bin .add (.idx (.var 1) (.cst (.int 0))) (.cst (.int 1))) (.cons (.idx (.var 0) (.cst (.int 0))) .nil)))))
    .nil)), true, none⟩
def d_has_shelves : PDef := ⟨2, 3,
    (.cons (.ifs (.or (.not (.isi (.var 1) .tuple)) (.not (.chain .le .le (.cst (.int 1)) (.blt .len (.cons (.var 1) .nil)) (.cst (.int 2))))) (.cons (.ret (.cst (.bl false)))
    .nil) .nil)
    (.cons (.ifs (.cmp .ne (.fl (.comp [2] (.nm 2) (.val (.var 1)) (.not (.call .is_shelf (.cons (.var 0) (.cons (.var 2) .nil)))) (.var 2))) (.fl (.disp .nil))) (.cons (.ret (.cst (.bl false)))
    .nil) .nil)
    (.cons (.ret (.or (.cmp .eq (.blt .len (.cons (.var 1) .nil)) (.cst (.int 1))) (.cmp .le (.idx (.idx (.var 1) (.cst (.int 0))) (.cst (.int 1))) (.idx (.idx (.var 1) (.cst (.int 1))) (.cst (.int 0))))))
    .nil))), true, none⟩
def d_need_wardrobe : PDef := ⟨1, 1,
    (.cons (.ifs (.not (.call .has_wardrobe (.cons (.var 0) .nil))) (.cons (.raise .InvalidWardrobe .nil)
    .nil) .nil)
    .nil), true, none⟩
def d_is_wardrobe : PDef := ⟨1, 1,
    (.cons (.ret (.call .has_wardrobe (.cons (.var 0) .nil)))
    .nil), true, none⟩
def d_is_facts : PDef := ⟨2, 2,
    (.cons (.ex (.call .need_wardrobe (.cons (.var 0) .nil)))
    (.cons (.ret (.call .has_facts (.cons (.var 0) (.cons (.var 1) .nil))))
    .nil)), true, none⟩
def d_is_widths : PDef := ⟨2, 2,
    (.cons (.ex (.call .need_wardrobe (.cons (.var 0) .nil)))
    (.cons (.ret (.call .has_widths (.cons (.var 0) (.cons (.var 1) .nil))))
    .nil)), true, none⟩
def d_are_shelves : PDef := ⟨2, 2,
    (.cons (.ex (.call .need_wardrobe (.cons (.var 0) .nil)))
    (.cons (.ret (.call .has_shelves (.cons (.var 0) (.cons (.var 1) .nil))))
    .nil)), true, none⟩
def d_l_vat : PDef := ⟨2, 3,
    (.cons (.asg (.nm 2) (.bin .add (.bin .mul (.cst (.int 7919)) (.var 1)) (.cst (.int 43))))
    (.cons (.ifs (.cmp .lt (.var 1) (.blt .len (.cons (.var 0) .nil))) (.cons (.asg (.nm 2) (.blt .abs (.cons (.blt .int (.cons (.idx (.var 0) (.var 1)) .nil)) .nil)))
    .nil) .nil)
    (.cons (.ret (.nl (.disp (.cons (.ife (.cmp .ge (.var 2) (.bin .pow (.cst (.int 10)) (.cst (.int 18)))) (.var 2) (.cst (.int 0))) (.cons (.bin .add (.bin .mod (.blt .int (.cons (.bin .add (.bin .add (.bin .mul (.var 2) (.cst (.int 131071))) (.bin .mul (.cst (.int 8191)) (.var 1))) (.cst (.int 5))) .nil)) (.cst (.int 2147483629))) (.cst (.int 1))) .nil)))))
    .nil))), false, none⟩
def d_l_under : PDef := ⟨2, 4,
    (.cons (.ifs (.cmp .gt (.idx (.var 0) (.cst (.int 0))) (.cst (.int 0))) (.cons (.asg (.nm 3) (.bin .mod (.blt .int (.cons (.idx (.var 0) (.cst (.int 0))) .nil)) (.var 1)))
    (.cons (.setI (.var 0) (.cst (.int 0)) (.bin .fdiv (.idx (.var 0) (.cst (.int 0))) (.var 1)))
    (.cons (.ret (.var 3))
    .nil))) .nil)
    (.cons (.setI (.var 0) (.cst (.int 1)) (.bin .mod (.blt .int (.cons (.bin .add (.bin .mul (.idx (.var 0) (.cst (.int 1))) (.cst (.int 39373))) (.cst (.int 101))) .nil)) (.cst (.int 2147483629))))
    (.cons (.asg (.nm 2) (.bin .mod (.blt .int (.cons (.bin .mul (.idx (.var 0) (.cst (.int 1))) (.bin .add (.bin .fdiv (.idx (.var 0) (.cst (.int 1))) (.cst (.int 5))) (.cst (.int 9)))) .nil)) (.cst (.int 2147483587))))
    (.cons (.ret (.bin .mod (.blt .int (.cons (.bin .fdiv (.var 2) (.cst (.int 32))) .nil)) (.var 1)))
    .nil)))), true, none⟩
def d_l_some : PDef := ⟨2, 2,
    (.cons (.ret (.idx (.var 1) (.call .l_under (.cons (.var 0) (.cons (.blt .len (.cons (.var 1) .nil)) .nil)))))
    .nil), true, none⟩
def d_l_is_whole : PDef := ⟨3, 3,
    (.cons (.ret (.and (.isi (.var 0) .int) (.and (.not (.isi (.var 0) .bool)) (.chain .le .le (.var 1) (.var 0) (.var 2)))))
    .nil), true, none⟩
def d_l_truly : PDef := ⟨2, 2,
    (.cons (.ret (.and (.isi (.var 0) .bool) (.cmp .eq (.var 0) (.var 1))))
    .nil), true, none⟩
def d_l_is_lot : PDef := ⟨2, 3,
    (.cons (.ifs (.or (.not (.isi (.var 1) .tuple)) (.cmp .eq (.var 1) (.tup .nil))) (.cons (.ret (.cst (.bl false)))
    .nil) .nil)
    (.cons (.ifs (.cmp .ne (.fl (.comp [2] (.nm 2) (.val (.var 1)) (.not (.call .l_is_whole (.cons (.var 2) (.cons (.cst (.int 0)) (.cons (.bin .sub (.var 0) (.cst (.int 1))) .nil))))) (.var 2))) (.fl (.disp .nil))) (.cons (.ret (.cst (.bl false)))
    .nil) .nil)
    (.cons (.ret (.cmp .eq (.fl (.ofl (.var 1))) (.sset (.var 1))))
    .nil))), true, none⟩
def d_l_is_fact : PDef := ⟨2, 2,
    (.cons (.ifs (.or (.not (.isi (.var 1) .tuple)) (.or (.cmp .lt (.blt .len (.cons (.var 1) .nil)) (.cst (.int 3))) (.not (.isi (.idx (.var 1) (.cst (.int 0))) .str)))) (.cons (.ret (.cst (.bl false)))
    .nil) .nil)
    (.cons (.ifs (.cmp .eq (.idx (.var 1) (.cst (.int 0))) (.cst (.str "wider"))) (.cons (.ifs (.or (.cmp .ne (.blt .len (.cons (.var 1) .nil)) (.cst (.int 3))) (.not (.call .l_is_lot (.cons (.var 0) (.cons (.idx (.var 1) (.cst (.int 1))) .nil))))) (.cons (.ret (.cst (.bl false)))
    .nil) .nil)
    (.cons (.ret (.and (.call .l_is_lot (.cons (.var 0) (.cons (.idx (.var 1) (.cst (.int 2))) .nil))) (.cmp .ne (.idx (.var 1) (.cst (.int 1))) (.idx (.var 1) (.cst (.int 2))))))
    .nil)) .nil)
    (.cons (.ifs (.or (.cmp .ne (.idx (.var 1) (.cst (.int 0))) (.cst (.str "sum"))) (.or (.cmp .ne (.blt .len (.cons (.var 1) .nil)) (.cst (.int 4))) (.not (.call .l_is_lot (.cons (.var 0) (.cons (.idx (.var 1) (.cst (.int 1))) .nil)))))) (.cons (.ret (.cst (.bl false)))
    .nil) .nil)
    (.cons (.ifs (.not (.call .l_is_whole (.cons (.idx (.var 1) (.cst (.int 2))) (.cons (.cst (.int 0)) (.cons (.bin .pow (.cst (.int 10)) (.cst (.int 6))) .nil))))) (.cons (.ret (.cst (.bl false)))
    .nil) .nil)
    (.cons (.ret (.or (.cmp .is (.idx (.var 1) (.cst (.int 3))) (.cst .non)) (.call .l_is_whole (.cons (.idx (.var 1) (.cst (.int 3))) (.cons (.idx (.var 1) (.cst (.int 2))) (.cons (.bin .pow (.cst (.int 10)) (.cst (.int 6))) .nil))))))
    .nil))))), true, none⟩
def d_l_are_facts : PDef := ⟨2, 4,
    (.cons (.ifs (.or (.not (.isi (.var 1) .tuple)) (.cmp .gt (.blt .len (.cons (.var 1) .nil)) (.cst (.int 6)))) (.cons (.ret (.cst (.bl false)))
    .nil) .nil)
    (.cons (.asg (.nm 2) (.bin .add (.idx (.var 0) (.cst (.int 1))) (.idx (.var 0) (.cst (.int 2)))))
    (.cons (.ret (.cmp .eq (.fl (.comp [3] (.nm 3) (.val (.var 1)) (.not (.call .l_is_fact (.cons (.var 2) (.cons (.var 3) .nil)))) (.var 3))) (.fl (.disp .nil))))
    .nil))), true, none⟩
def d_l_low : PDef := ⟨2, 4,
    (.cons (.par [2, 3] (.cons (.blt .abs (.cons (.var 0) .nil)) (.cons (.var 1) .nil)))
    (.cons (.whl (.cmp .ne (.var 3) (.cst (.int 0))) (.cons (.par [2, 3] (.cons (.var 3) (.cons (.bin .mod (.var 2) (.var 3)) .nil)))
    .nil))
    (.cons (.ret (.tup (.cons (.bin .fdiv (.var 0) (.var 2)) (.cons (.bin .fdiv (.var 1) (.var 2)) .nil))))
    .nil))), true, none⟩
def d_l_sum : PDef := ⟨2, 5,
    (.cons (.asg (.tp [(.nm 3), (.nm 4)]) (.tup (.cons (.cst (.int 0)) (.cons (.cst (.int 1)) .nil))))
    (.cons (.for_ (.nm 2) (.val (.var 1)) (.cons (.asg (.nm 3) (.bin .add (.bin .mul (.var 3) (.idx (.idx (.var 0) (.var 2)) (.cst (.int 1)))) (.bin .mul (.idx (.idx (.var 0) (.var 2)) (.cst (.int 0))) (.var 4))))
    (.cons (.asg (.nm 4) (.bin .mul (.var 4) (.idx (.idx (.var 0) (.var 2)) (.cst (.int 1)))))
    .nil)))
    (.cons (.ret (.tup (.cons (.var 3) (.cons (.var 4) .nil))))
    .nil))), true, none⟩
def d_l_most : PDef := ⟨2, 2,
    (.cons (.ret (.cmp .le (.idx (.var 0) (.cst (.int 0))) (.bin .mul (.var 1) (.idx (.var 0) (.cst (.int 1))))))
    .nil), true, none⟩
def d_l_rails : PDef := ⟨1, 2,
    (.cons (.asg (.nm 1) (.idx (.var 0) (.cst (.int 1))))
    (.cons (.ret (.fl (.disp (.cons (.fl (.lr1 (.var 1))) (.cons (.fl (.lr2 (.var 1) (.bin .add (.var 1) (.idx (.var 0) (.cst (.int 2)))))) .nil)))))
    .nil)), true, none⟩
def d_l_are_widths : PDef := ⟨2, 6,
    (.cons (.ifs (.or (.not (.isi (.var 1) .tuple)) (.cmp .ne (.blt .len (.cons (.var 1) .nil)) (.bin .add (.idx (.var 0) (.cst (.int 1))) (.idx (.var 0) (.cst (.int 2)))))) (.cons (.ret (.cst (.bl false)))
    .nil) .nil)
    (.cons (.for_ (.nm 2) (.val (.var 1)) (.cons (.ifs (.or (.not (.isi (.var 2) .tuple)) (.cmp .ne (.blt .len (.cons (.var 2) .nil)) (.cst (.int 2)))) (.cons (.ret (.cst (.bl false)))
    .nil) .nil)
    (.cons (.ifs (.cmp .ne (.fl (.comp [4] (.nm 4) (.val (.var 2)) (.or (.not (.isi (.var 4) .int)) (.or (.isi (.var 4) .bool) (.cmp .lt (.var 4) (.cst (.int 1))))) (.var 4))) (.fl (.disp .nil))) (.cons (.ret (.cst (.bl false)))
    .nil) .nil)
    (.cons (.ifs (.cmp .ne (.call .l_low (.cons (.idx (.var 2) (.cst (.int 0))) (.cons (.idx (.var 2) (.cst (.int 1))) .nil))) (.var 2)) (.cons (.ret (.cst (.bl false)))
    .nil) .nil)
    .nil))))
    (.cons (.asg (.nm 3) (.call .l_rails (.cons (.var 0) .nil)))
    (.cons (.ret (.cmp .eq (.fl (.comp [5] (.nm 5) (.val (.var 3)) (.not (.call .l_most (.cons (.call .l_sum (.cons (.var 1) (.cons (.var 5) .nil))) (.cons (.idx (.var 0) (.cst (.int 0))) .nil)))) (.var 5))) (.fl (.disp .nil))))
    .nil)))), true, none⟩
def d_l_are_shelves : PDef := ⟨2, 4,
    (.cons (.ifs (.or (.not (.isi (.var 1) .tuple)) (.not (.chain .le .le (.cst (.int 1)) (.blt .len (.cons (.var 1) .nil)) (.cst (.int 2))))) (.cons (.ret (.cst (.bl false)))
    .nil) .nil)
    (.cons (.asg (.nm 2) (.cst (.int 0)))
    (.cons (.for_ (.nm 3) (.val (.var 1)) (.cons (.ifs (.or (.not (.isi (.var 3) .tuple)) (.or (.cmp .ne (.blt .len (.cons (.var 3) .nil)) (.cst (.int 2))) (.not (.call .l_is_whole (.cons (.idx (.var 3) (.cst (.int 0))) (.cons (.var 2) (.cons (.idx (.var 0) (.cst (.int 0))) .nil))))))) (.cons (.ret (.cst (.bl false)))
    .nil) .nil)
    (.cons (.ifs (.not (.call .l_is_whole (.cons (.idx (.var 3) (.cst (.int 1))) (.cons (.bin .add (.idx (.var 3) (.cst (.int 0))) (.cst (.int 1))) (.cons (.idx (.var 0) (.cst (.int 0))) .nil))))) (.cons (.ret (.cst (.bl false)))
    .nil) .nil)
    (.cons (.asg (.nm 2) (.idx (.var 3) (.cst (.int 1))))
    .nil))))
    (.cons (.ret (.cst (.bl true)))
    .nil)))), true, none⟩
def d_l_line : PDef := ⟨5, 7,
    (.cons (.asg (.nm 5) (.nl (.disp (.cons (.var 1) .nil))))
    (.cons (.for_ (.nm 6) (.rng (.bin .add (.idx (.var 0) (.cst (.int 1))) (.idx (.var 0) (.cst (.int 2))))) (.cons (.app (.var 5) (.bin .sub (.ife (.cmp .inn (.var 6) (.var 2)) (.cst (.int 1)) (.cst (.int 0))) (.ife (.cmp .inn (.var 6) (.var 3)) (.cst (.int 1)) (.cst (.int 0)))))
    .nil))
    (.cons (.ret (.bin .add (.blt .tuple (.cons (.var 5) .nil)) (.tup (.cons (.var 4) .nil))))
    .nil))), true, none⟩
def d_l_fact_lines : PDef := ⟨2, 3,
    (.cons (.ifs (.cmp .eq (.idx (.var 1) (.cst (.int 0))) (.cst (.str "wider"))) (.cons (.ret (.fl (.disp (.cons (.call .l_line (.cons (.var 0) (.cons (.cst (.int 0)) (.cons (.idx (.var 1) (.cst (.int 1))) (.cons (.idx (.var 1) (.cst (.int 2))) (.cons (.cst (.bl false)) .nil)))))) .nil))))
    .nil) .nil)
    (.cons (.asg (.nm 2) (.fl (.disp (.cons (.call .l_line (.cons (.var 0) (.cons (.neg (.idx (.var 1) (.cst (.int 2)))) (.cons (.idx (.var 1) (.cst (.int 1))) (.cons (.fl (.disp .nil)) (.cons (.cst (.bl false)) .nil)))))) .nil))))
    (.cons (.ret (.ife (.cmp .is (.idx (.var 1) (.cst (.int 3))) (.cst .non)) (.var 2) (.bin .add (.var 2) (.fl (.disp (.cons (.call .l_line (.cons (.var 0) (.cons (.idx (.var 1) (.cst (.int 3))) (.cons (.fl (.disp .nil)) (.cons (.idx (.var 1) (.cst (.int 1))) (.cons (.cst (.bl false)) .nil)))))) .nil))))))
    .nil))), true, none⟩
def d_l_lines : PDef := ⟨2, 6,
    (.cons (.asg (.nm 2) (.nl (.comp [5] (.nm 5) (.rng (.bin .add (.idx (.var 0) (.cst (.int 1))) (.idx (.var 0) (.cst (.int 2))))) (.cst (.bl true)) (.call .l_line (.cons (.var 0) (.cons (.cst (.int 0)) (.cons (.fl (.disp (.cons (.var 5) .nil))) (.cons (.fl (.disp .nil)) (.cons (.cst (.bl true)) .nil)))))))))
    (.cons (.for_ (.nm 3) (.val (.call .l_rails (.cons (.var 0) .nil))) (.cons (.app (.var 2) (.call .l_line (.cons (.var 0) (.cons (.idx (.var 0) (.cst (.int 0))) (.cons (.fl (.disp .nil)) (.cons (.var 3) (.cons (.cst (.bl false)) .nil)))))))
    .nil))
    (.cons (.for_ (.nm 4) (.val (.var 1)) (.cons (.asg (.nm 2) (.bin .add (.var 2) (.call .l_fact_lines (.cons (.var 0) (.cons (.var 4) .nil)))))
    .nil))
    (.cons (.ret (.var 2))
    .nil)))), true, none⟩
def d_l_plain : PDef := ⟨1, 5,
    (.cons (.asg (.nm 1) (.cst (.int 0)))
    (.cons (.for_ (.nm 2) (.val (.slt (.var 0) (.neg (.cst (.int 1))))) (.cons (.par [3, 4] (.cons (.var 1) (.cons (.blt .abs (.cons (.var 2) .nil)) .nil)))
    (.cons (.whl (.cmp .ne (.var 4) (.cst (.int 0))) (.cons (.par [3, 4] (.cons (.var 4) (.cons (.bin .mod (.var 3) (.var 4)) .nil)))
    .nil))
    (.cons (.asg (.nm 1) (.var 3))
    .nil))))
    (.cons (.ret (.bin .add (.blt .tuple (.cons (.fl (.comp [2] (.nm 2) (.val (.slt (.var 0) (.neg (.cst (.int 1))))) (.cst (.bl true)) (.bin .fdiv (.var 2) (.blt .max2 (.cons (.cst (.int 1)) (.cons (.var 1) .nil)))))) .nil)) (.tup (.cons (.idx (.var 0) (.neg (.cst (.int 1)))) .nil))))
    .nil))), true, none⟩
def d_l_tight : PDef := ⟨1, 5,
    (.cons .bad
    (.cons (.for_ (.nm 2) (.val (.var 0)) (.cons (.asg (.nm 3) (.mth .get (.var 1) (.cons (.sl (.var 2) (.cst (.int 1)) (.neg (.cst (.int 1)))) .nil)))
    (.cons (.ifs (.or (.cmp .is (.var 3) (.cst .non)) (.or (.cmp .lt (.idx (.var 2) (.cst (.int 0))) (.idx (.var 3) (.cst (.int 0)))) (.and (.cmp .eq (.idx (.var 2) (.cst (.int 0))) (.idx (.var 3) (.cst (.int 0)))) (.idx (.var 2) (.neg (.cst (.int 1))))))) (.cons (.setI (.var 1) (.sl (.var 2) (.cst (.int 1)) (.neg (.cst (.int 1)))) (.var 2))
    .nil) .nil)
    .nil)))
    (.cons (.ret (.fl (.comp [4] (.nm 4) (.val (.blt .sorted (.cons (.var 1) .nil))) (.cst (.bl true)) (.idx (.var 1) (.var 4)))))
    .nil))), true, none⟩
def d_l_last : PDef := ⟨1, 8,
    (.cons (.asg (.tp [(.nm 3), (.nm 4)]) (.tup (.cons (.cst .non) (.cons (.cst .non) .nil))))
    (.cons (.for_ (.nm 1) (.val (.var 0)) (.cons (.par [5, 6, 7] (.cons (.idx (.var 1) (.cst (.int 0))) (.cons (.idx (.var 1) (.cst (.int 1))) (.cons (.idx (.var 1) (.neg (.cst (.int 1)))) .nil))))
    (.cons (.ifs (.and (.cmp .eq (.var 6) (.cst (.int 0))) (.or (.cmp .lt (.var 5) (.cst (.int 0))) (.and (.cmp .eq (.var 5) (.cst (.int 0))) (.var 7)))) (.cons (.ret (.cst (.bl false)))
    .nil) .nil)
    (.cons (.ifs (.cmp .gt (.var 6) (.cst (.int 0))) (.cons (.asg (.nm 2) (.ife (.cmp .is (.var 3) (.cst .non)) (.cst (.int 1)) (.bin .sub (.bin .mul (.idx (.var 3) (.cst (.int 0))) (.var 6)) (.bin .mul (.var 5) (.idx (.var 3) (.cst (.int 1)))))))
    (.cons (.asg (.nm 3) (.ife (.or (.cmp .gt (.var 2) (.cst (.int 0))) (.and (.cmp .eq (.var 2) (.cst (.int 0))) (.var 7))) (.tup (.cons (.var 5) (.cons (.var 6) (.cons (.var 7) .nil)))) (.var 3)))
    .nil)) .nil)
    (.cons (.ifs (.cmp .lt (.var 6) (.cst (.int 0))) (.cons (.asg (.nm 2) (.ife (.cmp .is (.var 4) (.cst .non)) (.cst (.int 1)) (.bin .sub (.bin .mul (.var 5) (.idx (.var 4) (.cst (.int 1)))) (.bin .mul (.idx (.var 4) (.cst (.int 0))) (.var 6)))))
    (.cons (.asg (.nm 4) (.ife (.or (.cmp .gt (.var 2) (.cst (.int 0))) (.and (.cmp .eq (.var 2) (.cst (.int 0))) (.var 7))) (.tup (.cons (.var 5) (.cons (.var 6) (.cons (.var 7) .nil)))) (.var 4)))
    .nil)) .nil)
    .nil)))))
    (.cons (.ifs (.or (.cmp .is (.var 3) (.cst .non)) (.cmp .is (.var 4) (.cst .non))) (.cons (.ret (.cst (.bl true)))
    .nil) .nil)
    (.cons (.asg (.nm 2) (.bin .sub (.bin .mul (.idx (.var 4) (.cst (.int 0))) (.idx (.var 3) (.cst (.int 1)))) (.bin .mul (.idx (.var 3) (.cst (.int 0))) (.idx (.var 4) (.cst (.int 1))))))
    (.cons (.ret (.or (.cmp .gt (.var 2) (.cst (.int 0))) (.and (.cmp .eq (.var 2) (.cst (.int 0))) (.and (.not (.idx (.var 3) (.cst (.int 2)))) (.not (.idx (.var 4) (.cst (.int 2))))))))
    .nil))))), true, none⟩
def d_l_can : PDef := ⟨1, 10,
    (.cons (.asg (.nm 1) (.call .l_tight (.cons (.fl (.comp [6] (.nm 6) (.val (.var 0)) (.cst (.bl true)) (.call .l_plain (.cons (.var 6) .nil)))) .nil)))
    (.cons (.for_ (.nm 2) (.rng3 (.bin .sub (.blt .len (.cons (.idx (.var 0) (.cst (.int 0))) .nil)) (.cst (.int 2))) (.cst (.int 1)) (.neg (.cst (.int 1)))) (.cons (.asg (.nm 3) (.nl (.comp [6] (.nm 6) (.val (.var 1)) (.cmp .eq (.idx (.var 6) (.var 2)) (.cst (.int 0))) (.var 6))))
    (.cons (.asg (.nm 4) (.fl (.comp [6] (.nm 6) (.val (.var 1)) (.cmp .gt (.idx (.var 6) (.var 2)) (.cst (.int 0))) (.var 6))))
    (.cons (.for_ (.nm 5) (.val (.fl (.comp [6] (.nm 6) (.val (.var 1)) (.cmp .lt (.idx (.var 6) (.var 2)) (.cst (.int 0))) (.var 6)))) (.cons (.for_ (.nm 6) (.val (.var 4)) (.cons (.asg (.nm 7) (.fl (.comp [8, 9] (.tp [(.nm 8), (.nm 9)]) (.zip (.slt (.var 6) (.neg (.cst (.int 1)))) (.slt (.var 5) (.neg (.cst (.int 1))))) (.cst (.bl true)) (.bin .sub (.bin .mul (.idx (.var 6) (.var 2)) (.var 9)) (.bin .mul (.idx (.var 5) (.var 2)) (.var 8))))))
    (.cons (.app (.var 3) (.call .l_plain (.cons (.bin .add (.blt .tuple (.cons (.var 7) .nil)) (.tup (.cons (.or (.idx (.var 6) (.neg (.cst (.int 1)))) (.idx (.var 5) (.neg (.cst (.int 1))))) .nil))) .nil)))
    .nil)))
    .nil))
    (.cons (.asg (.nm 1) (.call .l_tight (.cons (.var 3) .nil)))
    .nil)))))
    (.cons (.ret (.call .l_last (.cons (.var 1) .nil)))
    .nil))), true, none⟩
def d_l_wardrobe : PDef := ⟨2, 3,
    (.cons (.asg (.nm 2) (.bin .add (.cst (.int 1)) (.call .l_under (.cons (.var 0) (.cons (.blt .min2 (.cons (.cst (.int 3)) (.cons (.bin .sub (.var 1) (.cst (.int 1))) .nil))) .nil)))))
    (.cons (.ret (.tup (.cons (.bin .add (.cst (.int 4)) (.call .l_under (.cons (.var 0) (.cons (.cst (.int 9)) .nil)))) (.cons (.var 2) (.cons (.bin .add (.cst (.int 1)) (.call .l_under (.cons (.var 0) (.cons (.blt .min2 (.cons (.cst (.int 3)) (.cons (.bin .sub (.var 1) (.var 2)) .nil))) .nil)))) .nil)))))
    .nil)), true, none⟩
def d_l_lot : PDef := ⟨2, 4,
    (.cons (.asg (.nm 2) (.fl (.comp [3] (.nm 3) (.rng (.var 1)) (.cmp .eq (.call .l_under (.cons (.var 0) (.cons (.cst (.int 2)) .nil))) (.cst (.int 0))) (.var 3))))
    (.cons (.ret (.ife (.cmp .ne (.var 2) (.fl (.disp .nil))) (.blt .tuple (.cons (.var 2) .nil)) (.tup (.cons (.call .l_under (.cons (.var 0) (.cons (.var 1) .nil))) .nil))))
    .nil)), true, none⟩
def d_l_fact : PDef := ⟨2, 6,
    (.cons (.asg (.nm 2) (.bin .add (.idx (.var 1) (.cst (.int 1))) (.idx (.var 1) (.cst (.int 2)))))
    (.cons (.par [4, 5] (.cons (.call .l_lot (.cons (.var 0) (.cons (.var 2) .nil))) (.cons (.call .l_lot (.cons (.var 0) (.cons (.var 2) .nil))) .nil)))
    (.cons (.ifs (.and (.cmp .eq (.call .l_under (.cons (.var 0) (.cons (.cst (.int 3)) .nil))) (.cst (.int 0))) (.cmp .ne (.var 4) (.var 5))) (.cons (.ret (.tup (.cons (.cst (.str "wider")) (.cons (.var 4) (.cons (.var 5) .nil)))))
    .nil) .nil)
    (.cons (.asg (.nm 3) (.call .l_under (.cons (.var 0) (.cons (.bin .add (.cst (.int 4)) (.blt .len (.cons (.var 4) .nil))) .nil))))
    (.cons (.ret (.tup (.cons (.cst (.str "sum")) (.cons (.var 4) (.cons (.var 3) (.cons (.call .l_some (.cons (.var 0) (.cons (.fl (.disp (.cons (.cst .non) (.cons (.var 3) (.cons (.bin .add (.var 3) (.cst (.int 1))) (.cons (.bin .add (.var 3) (.cst (.int 3))) (.cons (.bin .add (.var 3) (.cst (.int 5))) .nil))))))) .nil))) .nil))))))
    .nil))))), true, none⟩
def d_l_facts : PDef := ⟨3, 6,
    (.cons (.asg (.nm 3) (.tup .nil))
    (.cons (.for_ (.nm 4) (.rng (.call .l_under (.cons (.var 0) (.cons (.bin .add (.var 2) (.cst (.int 1))) .nil)))) (.cons (.asg (.nm 5) (.bin .add (.var 3) (.tup (.cons (.call .l_fact (.cons (.var 0) (.cons (.var 1) .nil))) .nil))))
    (.cons (.ifs (.or (.cmp .eq (.call .l_under (.cons (.var 0) (.cons (.cst (.int 8)) .nil))) (.cst (.int 0))) (.call .l_can (.cons (.call .l_lines (.cons (.var 1) (.cons (.var 5) .nil))) .nil))) (.cons (.asg (.nm 3) (.var 5))
    .nil) .nil)
    .nil)))
    (.cons (.ret (.var 3))
    .nil))), true, none⟩
def d_l_shelves : PDef := ⟨2, 5,
    (.cons (.asg (.nm 2) (.call .l_under (.cons (.var 0) (.cons (.idx (.var 1) (.cst (.int 0))) .nil))))
    (.cons (.asg (.nm 3) (.bin .add (.bin .add (.var 2) (.cst (.int 1))) (.call .l_under (.cons (.var 0) (.cons (.blt .min2 (.cons (.cst (.int 3)) (.cons (.bin .sub (.idx (.var 1) (.cst (.int 0))) (.var 2)) .nil))) .nil)))))
    (.cons (.ifs (.and (.cmp .lt (.bin .add (.var 3) (.cst (.int 1))) (.idx (.var 1) (.cst (.int 0)))) (.cmp .eq (.call .l_under (.cons (.var 0) (.cons (.cst (.int 2)) .nil))) (.cst (.int 0)))) (.cons (.asg (.nm 4) (.bin .add (.var 3) (.call .l_under (.cons (.var 0) (.cons (.bin .sub (.idx (.var 1) (.cst (.int 0))) (.var 3)) .nil)))))
    (.cons (.ret (.tup (.cons (.tup (.cons (.var 2) (.cons (.var 3) .nil))) (.cons (.tup (.cons (.var 4) (.cons (.bin .add (.var 4) (.cst (.int 1))) .nil))) .nil))))
    .nil)) .nil)
    (.cons (.ret (.tup (.cons (.tup (.cons (.var 2) (.cons (.var 3) .nil))) .nil)))
    .nil)))), true, none⟩
def d_l_names : PDef := ⟨1, 5,
    (.cons (.asg (.nm 1) (.fl (.disp (.cons (.isx (.var 0) .InvalidWardrobe) (.cons (.isx (.var 0) .InvalidFacts) (.cons (.isx (.var 0) .InvalidFact) .nil))))))
    (.cons (.asg (.nm 1) (.bin .add (.var 1) (.fl (.disp (.cons (.isx (.var 0) .InvalidWidths) (.cons (.isx (.var 0) .InvalidShelves) .nil))))))
    (.cons (.asg (.nm 1) (.bin .add (.var 1) (.fl (.disp (.cons (.isx (.var 0) .InvalidStanding) (.cons (.isx (.var 0) .InvalidMoves) (.cons (.isx (.var 0) .InvalidTruth) .nil)))))))
    (.cons (.asg (.nm 1) (.bin .add (.var 1) (.fl (.disp (.cons (.isx (.var 0) .InvalidNumber) (.cons (.isx (.var 0) .InvalidIndex) (.cons (.isx (.var 0) .Impossible) .nil)))))))
    (.cons (.asg (.nm 1) (.bin .add (.var 1) (.fl (.disp (.cons (.isx (.var 0) .Unlike) (.cons (.isx (.var 0) .NothingToUndo) (.cons (.isx (.var 0) .InvalidText) .nil)))))))
    (.cons .bad
    (.cons (.asg (.nm 2) (.cst (.str "wardrobe facts fact widths shelves standing moves truth number index impossible")))
    (.cons (.asg (.nm 2) (.bin .add (.var 2) (.cst (.str " unlike undo text many value"))))
    (.cons (.ret (.mth .join (.cst (.str " ")) (.cons (.fl (.comp [3, 4] (.tp [(.nm 3), (.nm 4)]) (.zip (.mth .split (.var 2) (.cons (.cst (.str " ")) .nil)) (.var 1)) (.var 4) (.var 3))) .nil)))
    .nil))))))))), true, none⟩
def d_l_error : PDef := ⟨1, 2,
    (.cons .bad
    (.cons (.ret (.cst (.str "")))
    .nil)), true, none⟩
def d_l_odd : PDef := ⟨2, 5,
    (.cons (.asg (.nm 2) (.fl (.disp (.cons (.cst .non) (.cons (.cst (.bl true)) (.cons (.cst (.bl false)) (.cons (.cst (.int 0)) (.cons (.cst (.int 1)) (.cons (.cst (.int 2)) (.cons (.cst (.int 7)) (.cons (.neg (.cst (.int 1))) (.cons (.bin .pow (.cst (.int 10)) (.cst (.int 31))) (.cons (.cst (.str "")) (.cons (.cst (.str "sum")) (.cons (.cst (.str "wider")) (.cons (.tup .nil) (.cons (.fl (.disp .nil)) (.cons (.tup (.cons (.cst (.int 0)) .nil)) (.cons (.tup (.cons (.cst (.int 0)) (.cons (.cst (.int 1)) .nil))) (.cons (.tup (.cons (.cst (.int 1)) (.cons (.cst (.int 1)) (.cons (.cst (.int 1)) .nil)))) .nil))))))))))))))))))))
    (.cons (.asg (.nm 2) (.bin .add (.var 2) (.fl (.disp (.cons (.tup (.cons (.cst (.str "sum")) (.cons (.tup (.cons (.cst (.int 0)) .nil)) (.cons (.cst (.int 1)) (.cons (.cst .non) .nil))))) (.cons (.tup (.cons (.cst (.str "wider")) (.cons (.tup (.cons (.cst (.int 0)) .nil)) (.cons (.tup (.cons (.cst (.int 1)) .nil)) .nil)))) (.cons (.tup (.cons (.tup (.cons (.cst (.int 1)) (.cons (.cst (.int 2)) .nil))) (.cons (.tup (.cons (.cst (.int 3)) (.cons (.cst (.int 1)) .nil))) .nil))) (.cons (.tup (.cons (.tup (.cons (.cst (.int 0)) (.cons (.cst (.int 1)) .nil))) .nil)) (.cons (.tup (.cons (.cst (.int 1)) (.cons (.cst (.int 0)) .nil))) .nil)))))))))
    (.cons (.ifs (.or (.cmp .eq (.var 1) (.cst (.int 0))) (.cmp .lt (.call .l_under (.cons (.var 0) (.cons (.cst (.int 9)) .nil))) (.cst (.int 6)))) (.cons (.ret (.call .l_some (.cons (.var 0) (.cons (.var 2) .nil))))
    .nil) .nil)
    (.cons (.asg (.nm 3) (.fl (.comp [4] (.nm 4) (.rng (.call .l_under (.cons (.var 0) (.cons (.cst (.int 4)) .nil)))) (.cst (.bl true)) (.call .l_odd (.cons (.var 0) (.cons (.bin .sub (.var 1) (.cst (.int 1))) .nil))))))
    (.cons (.ret (.ife (.cmp .eq (.call .l_under (.cons (.var 0) (.cons (.cst (.int 3)) .nil))) (.cst (.int 0))) (.var 3) (.blt .tuple (.cons (.var 3) .nil))))
    .nil))))), true, none⟩
def d_l_bent : PDef := ⟨2, 5,
    (.cons (.ifs (.or (.not (.isi (.var 1) .tuple)) (.or (.cmp .eq (.var 1) (.tup .nil)) (.cmp .eq (.call .l_under (.cons (.var 0) (.cons (.cst (.int 7)) .nil))) (.cst (.int 0))))) (.cons (.asg (.nm 2) (.fl (.disp (.cons (.call .l_odd (.cons (.var 0) (.cons (.cst (.int 1)) .nil))) (.cons (.call .l_odd (.cons (.var 0) (.cons (.cst (.int 1)) .nil))) .nil)))))
    (.cons (.ifs (.isi (.var 1) .str) (.cons (.asg (.nm 2) (.bin .add (.var 2) (.fl (.disp (.cons (.cst (.str "sum")) (.cons (.cst (.str "wider")) (.cons (.cst (.str "push")) (.cons (.cst (.str "drive")) (.cons (.cst (.str "left")) (.cons (.cst (.str "right")) (.cons (.bin .add (.var 1) (.cst (.str "s"))) .nil)))))))))))
    .nil) (.cons (.ifs (.isi (.var 1) .int) (.cons (.asg (.nm 2) (.bin .add (.var 2) (.fl (.disp (.cons (.bin .add (.var 1) (.cst (.int 1))) (.cons (.bin .sub (.var 1) (.cst (.int 1))) (.cons (.not (.var 1)) (.cons (.blt .str (.cons (.var 1) .nil)) (.cons (.bin .add (.var 1) (.cst (.int 9))) (.cons (.bin .mul (.cst (.int 2)) (.var 1)) .nil))))))))))
    .nil) .nil)
    .nil))
    (.cons (.ret (.call .l_some (.cons (.var 0) (.cons (.var 2) .nil))))
    .nil))) .nil)
    (.cons (.par [3, 4] (.cons (.call .l_under (.cons (.var 0) (.cons (.blt .len (.cons (.var 1) .nil)) .nil))) (.cons (.call .l_under (.cons (.var 0) (.cons (.cst (.int 9)) .nil))) .nil)))
    (.cons (.ifs (.cmp .eq (.var 4) (.cst (.int 0))) (.cons (.ret (.bin .add (.slt (.var 1) (.var 3)) (.slf (.var 1) (.bin .add (.var 3) (.cst (.int 1))))))
    .nil) .nil)
    (.cons (.ifs (.cmp .eq (.var 4) (.cst (.int 1))) (.cons (.ret (.bin .add (.slt (.var 1) (.bin .add (.var 3) (.cst (.int 1)))) (.slf (.var 1) (.var 3))))
    .nil) .nil)
    (.cons (.ifs (.cmp .eq (.var 4) (.cst (.int 2))) (.cons (.ret (.rev (.var 1)))
    .nil) .nil)
    (.cons (.ifs (.cmp .eq (.var 4) (.cst (.int 3))) (.cons (.ret (.fl (.ofl (.var 1))))
    .nil) .nil)
    (.cons (.ret (.bin .add (.bin .add (.slt (.var 1) (.var 3)) (.tup (.cons (.call .l_bent (.cons (.var 0) (.cons (.idx (.var 1) (.var 3)) .nil))) .nil))) (.slf (.var 1) (.bin .add (.var 3) (.cst (.int 1))))))
    .nil))))))), true, none⟩
def d_l_is_wardrobe : PDef := ⟨1, 2,
    (.cons (.ifs (.or (.not (.isi (.var 0) .tuple)) (.or (.cmp .ne (.blt .len (.cons (.var 0) .nil)) (.cst (.int 3))) (.not (.call .l_is_whole (.cons (.idx (.var 0) (.cst (.int 0))) (.cons (.cst (.int 1)) (.cons (.bin .pow (.cst (.int 10)) (.cst (.int 6))) .nil))))))) (.cons (.ret (.cst (.bl false)))
    .nil) .nil)
    (.cons (.ret (.cmp .eq (.fl (.comp [1] (.nm 1) (.val (.slf (.var 0) (.cst (.int 1)))) (.not (.call .l_is_whole (.cons (.var 1) (.cons (.cst (.int 1)) (.cons (.cst (.int 3)) .nil))))) (.var 1))) (.fl (.disp .nil))))
    .nil)), true, none⟩
def d_l_judged : PDef := ⟨2, 5,
    (.cons (.asg (.nm 2) (.call .l_is_wardrobe (.cons (.var 1) .nil)))
    (.cons (.ifs (.not (.call .l_truly (.cons (.call .is_wardrobe (.cons (.var 1) .nil)) (.cons (.var 2) .nil)))) (.cons (.ret (.cst (.bl false)))
    .nil) .nil)
    (.cons (.ifs (.not (.var 2)) (.cons (.asg (.nm 3) (.fl (.comp [4] (.nm 4) (.val (.tup (.cons (.fn .is_facts) (.cons (.fn .is_widths) (.cons (.fn .are_shelves) .nil))))) (.cst (.bl true)) (.err (.callv (.var 4) (.cons (.var 1) (.cons (.cst .non) .nil)))))))
    (.cons (.ifs (.cmp .ne (.var 3) (.bin .mul (.fl (.disp (.cons (.cst (.str "wardrobe value")) .nil))) (.cst (.int 3)))) (.cons (.ret (.cst (.bl false)))
    .nil) .nil)
    .nil)) .nil)
    (.cons (.ifs (.not (.call .l_truly (.cons (.call .is_facts (.cons (.var 0) (.cons (.var 1) .nil))) (.cons (.call .l_are_facts (.cons (.var 0) (.cons (.var 1) .nil))) .nil)))) (.cons (.ret (.cst (.bl false)))
    .nil) .nil)
    (.cons (.ifs (.not (.call .l_truly (.cons (.call .is_widths (.cons (.var 0) (.cons (.var 1) .nil))) (.cons (.call .l_are_widths (.cons (.var 0) (.cons (.var 1) .nil))) .nil)))) (.cons (.ret (.cst (.bl false)))
    .nil) .nil)
    (.cons (.ret (.call .l_truly (.cons (.call .are_shelves (.cons (.var 0) (.cons (.var 1) .nil))) (.cons (.call .l_are_shelves (.cons (.var 0) (.cons (.var 1) .nil))) .nil))))
    .nil)))))), true, none⟩
def d_law_k01 : PDef := ⟨1, 12,
    (.cons (.for_ (.nm 1) (.rng (.blt .max2 (.cons (.cst (.int 6)) (.cons (.blt .min2 (.cons (.cst (.int 14)) (.cons (.blt .len (.cons (.var 0) .nil)) .nil))) .nil)))) (.cons (.asg (.nm 3) (.call .l_vat (.cons (.var 0) (.cons (.var 1) .nil))))
    (.cons (.asg (.nm 4) (.call .l_wardrobe (.cons (.var 3) (.cons (.cst (.int 6)) .nil))))
    (.cons (.asg (.nm 5) (.blt .tuple (.cons (.fl (.comp [11] (.nm 11) (.rng (.bin .add (.idx (.var 4) (.cst (.int 1))) (.idx (.var 4) (.cst (.int 2))))) (.cst (.bl true)) (.call .l_low (.cons (.bin .add (.cst (.int 1)) (.call .l_under (.cons (.var 3) (.cons (.cst (.int 9)) .nil)))) (.cons (.bin .add (.cst (.int 1)) (.call .l_under (.cons (.var 3) (.cons (.cst (.int 4)) .nil)))) .nil))))) .nil)))
    (.cons (.for_ (.nm 6) (.val (.fl (.disp (.cons (.var 4) (.cons (.call .l_facts (.cons (.var 3) (.cons (.var 4) (.cons (.cst (.int 2)) .nil)))) (.cons (.var 5) (.cons (.call .l_shelves (.cons (.var 3) (.cons (.var 4) .nil))) (.cons (.call .l_odd (.cons (.var 3) (.cons (.cst (.int 2)) .nil))) .nil)))))))) (.cons (.asg (.nm 9) (.var 6))
    (.cons (.for_ (.nm 10) (.rng (.cst (.int 13))) (.cons (.ifs (.not (.call .l_judged (.cons (.var 4) (.cons (.var 9) .nil)))) (.cons (.ret (.cst (.bl false)))
    .nil) .nil)
    (.cons (.asg (.nm 9) (.call .l_bent (.cons (.var 3) (.cons (.ife (.cmp .eq (.bin .mod (.var 10) (.cst (.int 3))) (.cst (.int 0))) (.var 6) (.var 9)) .nil))))
    .nil)))
    .nil)))
    .nil)))))
    (.cons (.asg (.nm 2) (.fl (.disp (.cons (.tup (.cons (.cst (.int 1)) (.cons (.cst (.int 1)) (.cons (.cst (.int 1)) .nil)))) (.cons (.tup (.cons (.bin .pow (.cst (.int 10)) (.cst (.int 6))) (.cons (.cst (.int 3)) (.cons (.cst (.int 3)) .nil)))) (.cons (.tup (.cons (.cst (.int 0)) (.cons (.cst (.int 1)) (.cons (.cst (.int 1)) .nil)))) (.cons (.tup (.cons (.bin .add (.bin .pow (.cst (.int 10)) (.cst (.int 6))) (.cst (.int 1))) (.cons (.cst (.int 1)) (.cons (.cst (.int 1)) .nil)))) (.cons (.tup (.cons (.cst (.int 5)) (.cons (.cst (.int 0)) (.cons (.cst (.int 1)) .nil)))) (.cons (.tup (.cons (.cst (.int 5)) (.cons (.cst (.int 1)) (.cons (.cst (.int 4)) .nil)))) (.cons (.tup (.cons (.cst (.int 5)) (.cons (.cst (.int 1)) .nil))) (.cons (.fl (.disp (.cons (.cst (.int 5)) (.cons (.cst (.int 1)) (.cons (.cst (.int 1)) .nil))))) (.cons (.tup (.cons (.cst (.int 5)) (.cons (.cst (.bl true)) (.cons (.cst (.int 1)) .nil)))) .nil))))))))))))
    (.cons (.ifs (.cmp .ne (.fl (.comp [6] (.nm 6) (.val (.var 2)) (.cst (.bl true)) (.call .is_wardrobe (.cons (.var 6) .nil)))) (.bin .add (.fl (.disp (.cons (.cst (.bl true)) (.cons (.cst (.bl true)) .nil)))) (.bin .mul (.fl (.disp (.cons (.cst (.bl false)) .nil))) (.cst (.int 7))))) (.cons (.ret (.cst (.bl false)))
    .nil) .nil)
    (.cons (.asg (.tp [(.nm 7), (.nm 8)]) (.tup (.cons (.tup (.cons (.cst (.int 10)) (.cons (.cst (.int 2)) (.cons (.cst (.int 1)) .nil)))) (.cons (.tup (.cons (.cst (.str "sum")) (.cons (.tup (.cons (.cst (.int 0)) .nil)) (.cons (.cst (.int 0)) (.cons (.cst .non) .nil))))) .nil))))
    (.cons (.asg (.nm 2) (.fl (.disp (.cons (.var 8) (.cons (.tup (.cons (.cst (.str "sum")) (.cons (.tup (.cons (.cst (.int 0)) (.cons (.cst (.int 1)) (.cons (.cst (.int 2)) .nil)))) (.cons (.cst (.int 3)) (.cons (.cst (.int 3)) .nil))))) (.cons (.tup (.cons (.cst (.str "sum")) (.cons (.tup (.cons (.cst (.int 0)) .nil)) (.cons (.cst (.int 0)) (.cons (.bin .pow (.cst (.int 10)) (.cst (.int 6))) .nil))))) (.cons (.tup (.cons (.cst (.str "wider")) (.cons (.tup (.cons (.cst (.int 0)) .nil)) (.cons (.tup (.cons (.cst (.int 0)) (.cons (.cst (.int 1)) .nil))) .nil)))) (.cons (.tup (.cons (.cst (.str "sum")) (.cons (.tup (.cons (.cst (.int 0)) .nil)) (.cons (.cst (.int 4)) (.cons (.cst (.int 3)) .nil))))) (.cons (.tup (.cons (.cst (.str "sum")) (.cons (.tup (.cons (.cst (.int 3)) .nil)) (.cons (.cst (.int 0)) (.cons (.cst (.int 1)) .nil))))) .nil)))))))))
    (.cons (.asg (.nm 2) (.bin .add (.var 2) (.fl (.disp (.cons (.tup (.cons (.cst (.str "sum")) (.cons (.tup (.cons (.cst (.int 1)) (.cons (.cst (.int 0)) .nil))) (.cons (.cst (.int 0)) (.cons (.cst (.int 1)) .nil))))) (.cons (.tup (.cons (.cst (.str "sum")) (.cons (.tup .nil) (.cons (.cst (.int 0)) (.cons (.cst (.int 1)) .nil))))) (.cons (.tup (.cons (.cst (.str "sum")) (.cons (.tup (.cons (.cst (.int 0)) .nil)) (.cons (.neg (.cst (.int 1))) (.cons (.cst (.int 1)) .nil))))) (.cons (.tup (.cons (.cst (.str "sum")) (.cons (.tup (.cons (.cst (.int 0)) .nil)) (.cons (.cst (.int 0)) (.cons (.bin .add (.bin .pow (.cst (.int 10)) (.cst (.int 6))) (.cst (.int 1))) .nil))))) (.cons (.tup (.cons (.cst (.str "wider")) (.cons (.tup (.cons (.cst (.int 0)) .nil)) (.cons (.tup (.cons (.cst (.int 0)) .nil)) .nil)))) .nil)))))))))
    (.cons (.ifs (.cmp .ne (.fl (.comp [6] (.nm 6) (.val (.var 2)) (.cst (.bl true)) (.call .is_facts (.cons (.var 7) (.cons (.tup (.cons (.var 6) .nil)) .nil))))) (.bin .add (.bin .mul (.fl (.disp (.cons (.cst (.bl true)) .nil))) (.cst (.int 4))) (.bin .mul (.fl (.disp (.cons (.cst (.bl false)) .nil))) (.cst (.int 7))))) (.cons (.ret (.cst (.bl false)))
    .nil) .nil)
    (.cons (.ifs (.or (.cmp .isnot (.call .is_facts (.cons (.var 7) (.cons (.bin .mul (.tup (.cons (.var 8) .nil)) (.cst (.int 6))) .nil))) (.cst (.bl true))) (.cmp .isnot (.call .is_facts (.cons (.var 7) (.cons (.bin .mul (.tup (.cons (.var 8) .nil)) (.cst (.int 7))) .nil))) (.cst (.bl false)))) (.cons (.ret (.cst (.bl false)))
    .nil) .nil)
    (.cons (.asg (.nm 2) (.fl (.disp (.cons (.tup (.cons (.tup (.cons (.cst (.int 5)) (.cons (.cst (.int 1)) .nil))) (.cons (.tup (.cons (.cst (.int 5)) (.cons (.cst (.int 1)) .nil))) (.cons (.tup (.cons (.cst (.int 10)) (.cons (.cst (.int 1)) .nil))) .nil)))) (.cons (.tup (.cons (.tup (.cons (.cst (.int 5)) (.cons (.cst (.int 1)) .nil))) (.cons (.tup (.cons (.cst (.int 11)) (.cons (.cst (.int 2)) .nil))) (.cons (.tup (.cons (.cst (.int 1)) (.cons (.cst (.int 1)) .nil))) .nil)))) (.cons (.tup (.cons (.tup (.cons (.cst (.int 1)) (.cons (.cst (.int 1)) .nil))) (.cons (.tup (.cons (.cst (.int 1)) (.cons (.cst (.int 1)) .nil))) (.cons (.tup (.cons (.cst (.int 21)) (.cons (.cst (.int 2)) .nil))) .nil)))) (.cons (.tup (.cons (.tup (.cons (.cst (.int 2)) (.cons (.cst (.int 4)) .nil))) (.cons (.tup (.cons (.cst (.int 1)) (.cons (.cst (.int 1)) .nil))) (.cons (.tup (.cons (.cst (.int 1)) (.cons (.cst (.int 1)) .nil))) .nil)))) (.cons (.tup (.cons (.tup (.cons (.cst (.int 0)) (.cons (.cst (.int 1)) .nil))) (.cons (.tup (.cons (.cst (.int 1)) (.cons (.cst (.int 1)) .nil))) (.cons (.tup (.cons (.cst (.int 1)) (.cons (.cst (.int 1)) .nil))) .nil)))) .nil))))))))
    (.cons (.ifs (.cmp .ne (.fl (.comp [6] (.nm 6) (.val (.bin .add (.var 2) (.fl (.disp (.cons (.bin .mul (.tup (.cons (.tup (.cons (.cst (.int 1)) (.cons (.cst (.int 1)) .nil))) .nil)) (.cst (.int 2))) (.cons (.bin .mul (.tup (.cons (.tup (.cons (.cst (.int 1)) (.cons (.cst (.int 1)) .nil))) .nil)) (.cst (.int 4))) .nil)))))) (.cst (.bl true)) (.call .is_widths (.cons (.var 7) (.cons (.var 6) .nil))))) (.bin .add (.fl (.disp (.cons (.cst (.bl true)) .nil))) (.bin .mul (.fl (.disp (.cons (.cst (.bl false)) .nil))) (.cst (.int 6))))) (.cons (.ret (.cst (.bl false)))
    .nil) .nil)
    (.cons (.asg (.nm 2) (.fl (.disp (.cons (.tup (.cons (.tup (.cons (.cst (.int 0)) (.cons (.cst (.int 10)) .nil))) .nil)) (.cons (.tup (.cons (.tup (.cons (.cst (.int 0)) (.cons (.cst (.int 1)) .nil))) (.cons (.tup (.cons (.cst (.int 1)) (.cons (.cst (.int 2)) .nil))) .nil))) (.cons (.tup (.cons (.tup (.cons (.cst (.int 9)) (.cons (.cst (.int 10)) .nil))) .nil)) (.cons (.tup (.cons (.tup (.cons (.cst (.int 0)) (.cons (.cst (.int 11)) .nil))) .nil)) (.cons (.tup (.cons (.tup (.cons (.cst (.int 4)) (.cons (.cst (.int 4)) .nil))) .nil)) (.cons (.tup (.cons (.tup (.cons (.cst (.int 0)) (.cons (.cst (.int 2)) .nil))) (.cons (.tup (.cons (.cst (.int 1)) (.cons (.cst (.int 3)) .nil))) .nil))) (.cons (.tup (.cons (.tup (.cons (.cst (.int 3)) (.cons (.cst (.int 4)) .nil))) (.cons (.tup (.cons (.cst (.int 1)) (.cons (.cst (.int 2)) .nil))) .nil))) (.cons (.tup .nil) (.cons (.tup (.cons (.tup (.cons (.cst (.int 0)) (.cons (.cst (.int 1)) .nil))) (.cons (.tup (.cons (.cst (.int 2)) (.cons (.cst (.int 3)) .nil))) (.cons (.tup (.cons (.cst (.int 4)) (.cons (.cst (.int 5)) .nil))) .nil)))) (.cons (.tup (.cons (.cst (.int 0)) (.cons (.cst (.int 1)) .nil))) .nil)))))))))))))
    (.cons (.ret (.cmp .eq (.fl (.comp [6] (.nm 6) (.val (.var 2)) (.cst (.bl true)) (.call .are_shelves (.cons (.var 7) (.cons (.var 6) .nil))))) (.bin .add (.bin .mul (.fl (.disp (.cons (.cst (.bl true)) .nil))) (.cst (.int 3))) (.bin .mul (.fl (.disp (.cons (.cst (.bl false)) .nil))) (.cst (.int 7))))))
    .nil)))))))))))), true, none⟩
def d_need_facts : PDef := ⟨2, 2,
    (.cons (.ex (.call .need_wardrobe (.cons (.var 0) .nil)))
    (.cons (.ifs (.not (.call .has_facts (.cons (.var 0) (.cons (.var 1) .nil)))) (.cons (.raise .InvalidFacts .nil)
    .nil) .nil)
    .nil)), true, none⟩
def d_need_shelves : PDef := ⟨2, 2,
    (.cons (.ifs (.not (.call .has_shelves (.cons (.var 0) (.cons (.var 1) .nil)))) (.cons (.raise .InvalidShelves .nil)
    .nil) .nil)
    .nil), true, none⟩
def d_need_widths : PDef := ⟨2, 2,
    (.cons (.ifs (.not (.call .has_widths (.cons (.var 0) (.cons (.var 1) .nil)))) (.cons (.raise .InvalidWidths .nil)
    .nil) .nil)
    .nil), true, none⟩
def d_keeps_fact : PDef := ⟨2, 4,
    (.cons (.asg (.nm 2) (.call .total (.cons (.var 0) (.cons (.idx (.var 1) (.cst (.int 1))) .nil))))
    (.cons (.ifs (.cmp .eq (.idx (.var 1) (.cst (.int 0))) (.cst (.str "wider"))) (.cons (.asg (.nm 3) (.call .total (.cons (.var 0) (.cons (.idx (.var 1) (.cst (.int 2))) .nil))))
    (.cons (.ret (.cmp .ge (.bin .mul (.idx (.var 2) (.cst (.int 0))) (.idx (.var 3) (.cst (.int 1)))) (.bin .mul (.idx (.var 3) (.cst (.int 0))) (.idx (.var 2) (.cst (.int 1))))))
    .nil)) .nil)
    (.cons (.ret (.and (.cmp .ge (.idx (.var 2) (.cst (.int 0))) (.bin .mul (.idx (.var 1) (.cst (.int 2))) (.idx (.var 2) (.cst (.int 1))))) (.or (.cmp .is (.idx (.var 1) (.cst (.int 3))) (.cst .non)) (.call .at_most (.cons (.var 2) (.cons (.idx (.var 1) (.cst (.int 3))) .nil))))))
    .nil))), true, none⟩
def d_keeps : PDef := ⟨3, 4,
    (.cons (.ex (.call .need_facts (.cons (.var 0) (.cons (.var 1) .nil))))
    (.cons (.ex (.call .need_widths (.cons (.var 0) (.cons (.var 2) .nil))))
    (.cons (.ret (.cmp .eq (.fl (.comp [3] (.nm 3) (.val (.var 1)) (.not (.call .keeps_fact (.cons (.var 2) (.cons (.var 3) .nil)))) (.var 3))) (.fl (.disp .nil))))
    .nil))), true, none⟩
def d_rooms : PDef := ⟨2, 6,
    (.cons (.par [2, 3] (.cons (.nl (.disp .nil)) (.cons (.cst (.int 0)) .nil)))
    (.cons (.for_ (.tp [(.nm 4), (.nm 5)]) (.val (.var 1)) (.cons (.app (.var 2) (.bin .sub (.var 4) (.var 3)))
    (.cons (.asg (.nm 3) (.var 5))
    .nil)))
    (.cons (.ret (.bin .add (.var 2) (.fl (.disp (.cons (.bin .sub (.idx (.var 0) (.cst (.int 0))) (.var 3)) .nil)))))
    .nil))), true, none⟩
def d_fits : PDef := ⟨4, 7,
    (.cons (.asg (.nm 4) (.call .doors_of (.cons (.var 0) (.cons (.var 3) .nil))))
    (.cons (.for_ (.nm 5) (.val (.call .rooms (.cons (.var 0) (.cons (.var 1) .nil)))) (.cons (.asg (.nm 6) (.cst (.int 0)))
    (.cons (.whl (.and (.cmp .lt (.var 6) (.blt .len (.cons (.var 4) .nil))) (.call .at_most (.cons (.call .total (.cons (.var 2) (.cons (.slt (.var 4) (.bin .add (.var 6) (.cst (.int 1)))) .nil))) (.cons (.var 5) .nil)))) (.cons (.asg (.nm 6) (.bin .add (.var 6) (.cst (.int 1))))
    .nil))
    (.cons (.asg (.nm 4) (.slf (.var 4) (.var 6)))
    .nil))))
    (.cons (.ret (.cmp .eq (.var 4) (.fl (.disp .nil))))
    .nil))), true, none⟩
def d_can_open : PDef := ⟨3, 3,
    (.cons (.ex (.call .need_wardrobe (.cons (.var 0) .nil)))
    (.cons (.ex (.call .need_shelves (.cons (.var 0) (.cons (.var 1) .nil))))
    (.cons (.ex (.call .need_widths (.cons (.var 0) (.cons (.var 2) .nil))))
    (.cons (.ret (.and (.call .fits (.cons (.var 0) (.cons (.var 1) (.cons (.var 2) (.cons (.cst (.int 0)) .nil))))) (.call .fits (.cons (.var 0) (.cons (.var 1) (.cons (.var 2) (.cons (.cst (.int 1)) .nil)))))))
    .nil)))), true, none⟩
def d_l_keeps : PDef := ⟨2, 5,
    (.cons (.for_ (.nm 2) (.val (.var 0)) (.cons (.asg (.nm 3) (.call .l_sum (.cons (.var 1) (.cons (.idx (.var 2) (.cst (.int 1))) .nil))))
    (.cons (.ifs (.cmp .eq (.idx (.var 2) (.cst (.int 0))) (.cst (.str "wider"))) (.cons (.asg (.nm 4) (.call .l_sum (.cons (.var 1) (.cons (.idx (.var 2) (.cst (.int 2))) .nil))))
    (.cons (.ifs (.cmp .lt (.bin .mul (.idx (.var 3) (.cst (.int 0))) (.idx (.var 4) (.cst (.int 1)))) (.bin .mul (.idx (.var 4) (.cst (.int 0))) (.idx (.var 3) (.cst (.int 1))))) (.cons (.ret (.cst (.bl false)))
    .nil) .nil)
    .nil)) (.cons (.ifs (.cmp .lt (.idx (.var 3) (.cst (.int 0))) (.bin .mul (.idx (.var 2) (.cst (.int 2))) (.idx (.var 3) (.cst (.int 1))))) (.cons (.ret (.cst (.bl false)))
    .nil) (.cons (.ifs (.and (.cmp .isnot (.idx (.var 2) (.cst (.int 3))) (.cst .non)) (.not (.call .l_most (.cons (.var 3) (.cons (.idx (.var 2) (.cst (.int 3))) .nil))))) (.cons (.ret (.cst (.bl false)))
    .nil) .nil)
    .nil))
    .nil))
    .nil)))
    (.cons (.ret (.cst (.bl true)))
    .nil)), true, none⟩
def d_l_rooms : PDef := ⟨2, 6,
    (.cons (.asg (.nm 2) (.nl (.disp (.cons (.cst (.int 0)) .nil))))
    (.cons (.for_ (.tp [(.nm 3), (.nm 4)]) (.val (.var 1)) (.cons (.asg (.nm 2) (.nl (.cat (.var 2) (.fl (.disp (.cons (.var 3) (.cons (.var 4) .nil)))))))
    .nil))
    (.cons (.app (.var 2) (.idx (.var 0) (.cst (.int 0))))
    (.cons (.ret (.fl (.comp [5] (.nm 5) (.rng3 (.cst (.int 0)) (.blt .len (.cons (.var 2) .nil)) (.cst (.int 2))) (.cst (.bl true)) (.bin .sub (.idx (.var 2) (.bin .add (.var 5) (.cst (.int 1)))) (.idx (.var 2) (.var 5))))))
    .nil)))), true, none⟩
def d_l_cuts : PDef := ⟨2, 6,
    (.cons (.ifs (.cmp .eq (.var 0) (.cst (.int 1))) (.cons (.ret (.fl (.comp [4] (.nm 4) (.rng (.bin .add (.var 1) (.cst (.int 1)))) (.cst (.bl true)) (.tup (.cons (.var 4) .nil)))))
    .nil) .nil)
    (.cons (.asg (.nm 2) (.fl (.disp .nil)))
    (.cons (.for_ (.nm 3) (.rng (.bin .add (.var 1) (.cst (.int 1)))) (.cons (.asg (.nm 2) (.bin .add (.var 2) (.fl (.comp [5] (.nm 5) (.rng2 (.var 3) (.bin .add (.var 1) (.cst (.int 1)))) (.cst (.bl true)) (.tup (.cons (.var 3) (.cons (.var 5) .nil)))))))
    .nil))
    (.cons (.ret (.var 2))
    .nil)))), true, none⟩
def d_l_opens : PDef := ⟨3, 11,
    (.cons (.asg (.nm 3) (.call .l_rooms (.cons (.var 0) (.cons (.var 1) .nil))))
    (.cons (.for_ (.nm 4) (.val (.call .l_rails (.cons (.var 0) .nil))) (.cons (.asg (.nm 5) (.cst (.bl false)))
    (.cons (.for_ (.nm 6) (.val (.call .l_cuts (.cons (.blt .len (.cons (.var 1) .nil)) (.cons (.blt .len (.cons (.var 4) .nil)) .nil)))) (.cons (.asg (.tp [(.nm 7), (.nm 8)]) (.tup (.cons (.cst (.int 0)) (.cons (.cst (.bl true)) .nil))))
    (.cons (.for_ (.tp [(.nm 9), (.nm 10)]) (.zip (.var 3) (.bin .add (.var 6) (.tup (.cons (.blt .len (.cons (.var 4) .nil)) .nil)))) (.cons (.asg (.nm 8) (.and (.var 8) (.call .l_most (.cons (.call .l_sum (.cons (.var 2) (.cons (.sl (.var 4) (.var 7) (.var 10)) .nil))) (.cons (.var 9) .nil)))))
    (.cons (.asg (.nm 7) (.var 10))
    .nil)))
    (.cons (.asg (.nm 5) (.or (.var 5) (.var 8)))
    .nil))))
    (.cons (.ifs (.not (.var 5)) (.cons (.ret (.cst (.bl false)))
    .nil) .nil)
    .nil))))
    (.cons (.ret (.cst (.bl true)))
    .nil))), true, none⟩
def d_l_drawn : PDef := ⟨2, 8,
    (.cons (.par [3, 4] (.cons (.call .l_some (.cons (.var 0) (.cons (.fl (.disp (.cons (.cst (.int 1)) (.cons (.cst (.int 2)) (.cons (.cst (.int 3)) (.cons (.cst (.int 7)) .nil)))))) .nil))) (.cons (.nl (.disp .nil)) .nil)))
    (.cons (.for_ (.nm 2) (.val (.call .l_rails (.cons (.var 1) .nil))) (.cons (.asg (.nm 5) (.bin .mul (.idx (.var 1) (.cst (.int 0))) (.var 3)))
    (.cons (.for_ (.nm 6) (.rng (.blt .len (.cons (.var 2) .nil))) (.cons (.asg (.nm 7) (.bin .add (.cst (.int 1)) (.call .l_under (.cons (.var 0) (.cons (.blt .max2 (.cons (.cst (.int 1)) (.cons (.bin .sub (.var 5) (.bin .sub (.bin .sub (.blt .len (.cons (.var 2) .nil)) (.var 6)) (.cst (.int 1)))) .nil))) .nil)))))
    (.cons (.asg (.nm 7) (.blt .min2 (.cons (.var 7) (.cons (.bin .sub (.var 5) (.bin .sub (.bin .sub (.blt .len (.cons (.var 2) .nil)) (.var 6)) (.cst (.int 1)))) .nil))))
    (.cons (.asg (.nm 5) (.bin .sub (.var 5) (.var 7)))
    (.cons (.app (.var 4) (.call .l_low (.cons (.var 7) (.cons (.var 3) .nil))))
    .nil)))))
    .nil)))
    (.cons (.ret (.blt .tuple (.cons (.var 4) .nil)))
    .nil))), true, none⟩
def d_l_open : PDef := ⟨3, 3,
    (.cons (.ret (.err (.call .can_open (.cons (.var 0) (.cons (.var 1) (.cons (.var 2) .nil))))))
    .nil), true, none⟩
def d_law_k02 : PDef := ⟨1, 16,
    (.cons (.for_ (.nm 1) (.rng (.blt .max2 (.cons (.cst (.int 6)) (.cons (.blt .min2 (.cons (.cst (.int 14)) (.cons (.blt .len (.cons (.var 0) .nil)) .nil))) .nil)))) (.cons (.asg (.nm 4) (.call .l_vat (.cons (.var 0) (.cons (.var 1) .nil))))
    (.cons (.for_ (.nm 5) (.rng (.cst (.int 6))) (.cons (.asg (.nm 12) (.call .l_wardrobe (.cons (.var 4) (.cons (.cst (.int 6)) .nil))))
    (.cons (.asg (.nm 13) (.call .l_drawn (.cons (.var 4) (.cons (.var 12) .nil))))
    (.cons (.asg (.nm 2) (.blt .tuple (.cons (.fl (.comp [15] (.nm 15) (.rng (.call .l_under (.cons (.var 4) (.cons (.cst (.int 3)) .nil)))) (.cst (.bl true)) (.call .l_fact (.cons (.var 4) (.cons (.var 12) .nil))))) .nil)))
    (.cons (.asg (.nm 14) (.call .l_shelves (.cons (.var 4) (.cons (.var 12) .nil))))
    (.cons (.ifs (.not (.call .l_truly (.cons (.call .keeps (.cons (.var 12) (.cons (.var 2) (.cons (.var 13) .nil)))) (.cons (.call .l_keeps (.cons (.var 2) (.cons (.var 13) .nil))) .nil)))) (.cons (.ret (.cst (.bl false)))
    .nil) .nil)
    (.cons (.ifs (.not (.call .l_truly (.cons (.call .can_open (.cons (.var 12) (.cons (.var 14) (.cons (.var 13) .nil)))) (.cons (.call .l_opens (.cons (.var 12) (.cons (.var 14) (.cons (.var 13) .nil)))) .nil)))) (.cons (.ret (.cst (.bl false)))
    .nil) .nil)
    .nil)))))))
    (.cons (.for_ (.nm 6) (.val (.fl (.disp (.cons (.cst .non) (.cons (.tup .nil) (.cons (.bin .add (.var 13) (.tup (.cons (.tup (.cons (.cst (.int 1)) (.cons (.cst (.int 1)) .nil))) .nil))) (.cons (.fl (.ofl (.var 13))) (.cons (.bin .add (.tup (.cons (.tup (.cons (.bin .add (.idx (.var 12) (.cst (.int 0))) (.cst (.int 1))) (.cons (.cst (.int 1)) .nil))) .nil)) (.slf (.var 13) (.cst (.int 1)))) .nil)))))))) (.cons (.ifs (.cmp .ne (.fl (.disp (.cons (.err (.call .keeps (.cons (.var 12) (.cons (.var 2) (.cons (.var 6) .nil))))) (.cons (.call .l_open (.cons (.var 12) (.cons (.var 14) (.cons (.var 6) .nil)))) .nil)))) (.bin .mul (.fl (.disp (.cons (.cst (.str "widths value")) .nil))) (.cst (.int 2)))) (.cons (.ret (.cst (.bl false)))
    .nil) .nil)
    .nil))
    (.cons (.for_ (.nm 6) (.val (.fl (.disp (.cons (.cst .non) (.cons (.tup .nil) (.cons (.bin .mul (.var 14) (.cst (.int 3))) (.cons (.tup (.cons (.tup (.cons (.cst (.int 0)) (.cons (.cst (.int 0)) .nil))) .nil)) (.cons (.tup (.cons (.tup (.cons (.neg (.cst (.int 1))) (.cons (.cst (.int 1)) .nil))) .nil)) .nil)))))))) (.cons (.ifs (.cmp .ne (.call .l_open (.cons (.var 12) (.cons (.var 6) (.cons (.cst .non) .nil)))) (.cst (.str "shelves value"))) (.cons (.ret (.cst (.bl false)))
    .nil) .nil)
    .nil))
    .nil)))))
    (.cons (.asg (.tp [(.nm 7), (.nm 8)]) (.tup (.cons (.tup (.cons (.cst (.int 10)) (.cons (.cst (.int 2)) (.cons (.cst (.int 1)) .nil)))) (.cons (.tup (.cons (.tup (.cons (.cst (.int 3)) (.cons (.cst (.int 1)) .nil))) (.cons (.tup (.cons (.cst (.int 7)) (.cons (.cst (.int 2)) .nil))) (.cons (.tup (.cons (.cst (.int 4)) (.cons (.cst (.int 1)) .nil))) .nil)))) .nil))))
    (.cons (.asg (.nm 2) (.tup (.cons (.tup (.cons (.cst (.str "sum")) (.cons (.tup (.cons (.cst (.int 0)) (.cons (.cst (.int 1)) .nil))) (.cons (.cst (.int 6)) (.cons (.cst (.int 8)) .nil))))) (.cons (.tup (.cons (.cst (.str "wider")) (.cons (.tup (.cons (.cst (.int 1)) .nil)) (.cons (.tup (.cons (.cst (.int 0)) .nil)) .nil)))) .nil))))
    (.cons (.ifs (.or (.cmp .isnot (.call .keeps (.cons (.var 7) (.cons (.var 2) (.cons (.var 8) .nil)))) (.cst (.bl true))) (.cmp .isnot (.call .keeps (.cons (.var 7) (.cons (.bin .add (.var 2) (.tup (.cons (.tup (.cons (.cst (.str "wider")) (.cons (.tup (.cons (.cst (.int 0)) .nil)) (.cons (.tup (.cons (.cst (.int 1)) .nil)) .nil)))) .nil))) (.cons (.var 8) .nil)))) (.cst (.bl false)))) (.cons (.ret (.cst (.bl false)))
    .nil) .nil)
    (.cons (.asg (.tp [(.nm 9), (.nm 10), (.nm 11)]) (.tup (.cons (.tup (.cons (.cst (.int 1)) (.cons (.cst (.int 1)) .nil))) (.cons (.tup (.cons (.cst (.int 4)) (.cons (.cst (.int 1)) .nil))) (.cons (.tup (.cons (.cst (.int 9)) (.cons (.cst (.int 2)) .nil))) .nil)))))
    (.cons (.asg (.nm 3) (.fl (.disp (.cons (.call .can_open (.cons (.var 7) (.cons (.tup (.cons (.tup (.cons (.cst (.int 4)) (.cons (.cst (.int 6)) .nil))) .nil)) (.cons (.bin .mul (.tup (.cons (.var 10) .nil)) (.cst (.int 3))) .nil)))) (.cons (.call .can_open (.cons (.var 7) (.cons (.tup (.cons (.tup (.cons (.cst (.int 4)) (.cons (.cst (.int 6)) .nil))) .nil)) (.cons (.tup (.cons (.var 10) (.cons (.var 10) (.cons (.var 11) .nil)))) .nil)))) (.cons (.call .can_open (.cons (.var 7) (.cons (.tup (.cons (.tup (.cons (.cst (.int 4)) (.cons (.cst (.int 6)) .nil))) .nil)) (.cons (.tup (.cons (.var 11) (.cons (.var 10) (.cons (.var 10) .nil)))) .nil)))) .nil))))))
    (.cons (.asg (.nm 3) (.bin .add (.var 3) (.fl (.disp (.cons (.call .can_open (.cons (.var 7) (.cons (.tup (.cons (.tup (.cons (.cst (.int 0)) (.cons (.cst (.int 2)) .nil))) (.cons (.tup (.cons (.cst (.int 8)) (.cons (.cst (.int 10)) .nil))) .nil))) (.cons (.tup (.cons (.tup (.cons (.cst (.int 3)) (.cons (.cst (.int 1)) .nil))) (.cons (.tup (.cons (.cst (.int 3)) (.cons (.cst (.int 1)) .nil))) (.cons (.tup (.cons (.cst (.int 6)) (.cons (.cst (.int 1)) .nil))) .nil)))) .nil)))) (.cons (.call .can_open (.cons (.var 7) (.cons (.tup (.cons (.tup (.cons (.cst (.int 0)) (.cons (.cst (.int 2)) .nil))) (.cons (.tup (.cons (.cst (.int 8)) (.cons (.cst (.int 10)) .nil))) .nil))) (.cons (.tup (.cons (.tup (.cons (.cst (.int 3)) (.cons (.cst (.int 1)) .nil))) (.cons (.tup (.cons (.cst (.int 7)) (.cons (.cst (.int 2)) .nil))) (.cons (.tup (.cons (.cst (.int 6)) (.cons (.cst (.int 1)) .nil))) .nil)))) .nil)))) .nil))))))
    (.cons (.asg (.nm 3) (.bin .add (.var 3) (.fl (.disp (.cons (.call .can_open (.cons (.var 7) (.cons (.tup (.cons (.tup (.cons (.cst (.int 0)) (.cons (.cst (.int 3)) .nil))) .nil)) (.cons (.tup (.cons (.var 9) (.cons (.tup (.cons (.cst (.int 6)) (.cons (.cst (.int 1)) .nil))) (.cons (.tup (.cons (.cst (.int 7)) (.cons (.cst (.int 1)) .nil))) .nil)))) .nil)))) (.cons (.call .can_open (.cons (.var 7) (.cons (.tup (.cons (.tup (.cons (.cst (.int 3)) (.cons (.cst (.int 4)) .nil))) .nil)) (.cons (.tup (.cons (.tup (.cons (.cst (.int 7)) (.cons (.cst (.int 2)) .nil))) (.cons (.tup (.cons (.cst (.int 7)) (.cons (.cst (.int 2)) .nil))) (.cons (.var 9) .nil)))) .nil)))) (.cons (.call .can_open (.cons (.var 7) (.cons (.tup (.cons (.tup (.cons (.cst (.int 2)) (.cons (.cst (.int 3)) .nil))) (.cons (.tup (.cons (.cst (.int 5)) (.cons (.cst (.int 6)) .nil))) .nil))) (.cons (.tup (.cons (.var 9) (.cons (.tup (.cons (.cst (.int 2)) (.cons (.cst (.int 1)) .nil))) (.cons (.var 9) .nil)))) .nil)))) .nil)))))))
    (.cons (.ret (.cmp .eq (.var 3) (.fl (.disp (.cons (.cst (.bl true)) (.cons (.cst (.bl false)) (.cons (.cst (.bl false)) (.cons (.cst (.bl true)) (.cons (.cst (.bl false)) (.cons (.cst (.bl true)) (.cons (.cst (.bl false)) (.cons (.cst (.bl true)) .nil))))))))))))
    .nil))))))))), true, none⟩
def d_row_of : PDef := ⟨5, 7,
    (.cons (.asg (.nm 5) (.nl (.disp .nil)))
    (.cons (.for_ (.nm 6) (.rng (.bin .add (.idx (.var 0) (.cst (.int 1))) (.idx (.var 0) (.cst (.int 2))))) (.cons (.app (.var 5) (.bin .sub (.blt .int (.cons (.cmp .inn (.var 6) (.var 2)) .nil)) (.blt .int (.cons (.cmp .inn (.var 6) (.var 3)) .nil))))
    .nil))
    (.cons (.ret (.bin .add (.bin .add (.tup (.cons (.var 1) .nil)) (.blt .tuple (.cons (.var 5) .nil))) (.tup (.cons (.var 4) .nil))))
    .nil))), true, none⟩
def d_fact_rows : PDef := ⟨2, 3,
    (.cons (.ifs (.cmp .eq (.idx (.var 1) (.cst (.int 0))) (.cst (.str "wider"))) (.cons (.ret (.fl (.disp (.cons (.call .row_of (.cons (.var 0) (.cons (.cst (.int 0)) (.cons (.idx (.var 1) (.cst (.int 1))) (.cons (.idx (.var 1) (.cst (.int 2))) (.cons (.cst (.bl false)) .nil)))))) .nil))))
    .nil) .nil)
    (.cons (.asg (.nm 2) (.nl (.disp (.cons (.call .row_of (.cons (.var 0) (.cons (.neg (.idx (.var 1) (.cst (.int 2)))) (.cons (.idx (.var 1) (.cst (.int 1))) (.cons (.tup .nil) (.cons (.cst (.bl false)) .nil)))))) .nil))))
    (.cons (.ifs (.cmp .isnot (.idx (.var 1) (.cst (.int 3))) (.cst .non)) (.cons (.app (.var 2) (.call .row_of (.cons (.var 0) (.cons (.idx (.var 1) (.cst (.int 3))) (.cons (.tup .nil) (.cons (.idx (.var 1) (.cst (.int 1))) (.cons (.cst (.bl false)) .nil)))))))
    .nil) .nil)
    (.cons (.ret (.var 2))
    .nil)))), true, none⟩
def d_all_rows : PDef := ⟨2, 6,
    (.cons (.asg (.nm 2) (.nl (.disp .nil)))
    (.cons (.for_ (.nm 3) (.rng (.bin .add (.idx (.var 0) (.cst (.int 1))) (.idx (.var 0) (.cst (.int 2))))) (.cons (.app (.var 2) (.call .row_of (.cons (.var 0) (.cons (.cst (.int 0)) (.cons (.tup (.cons (.var 3) .nil)) (.cons (.tup .nil) (.cons (.cst (.bl true)) .nil)))))))
    .nil))
    (.cons (.for_ (.nm 4) (.val (.tup (.cons (.cst (.int 0)) (.cons (.cst (.int 1)) .nil)))) (.cons (.app (.var 2) (.call .row_of (.cons (.var 0) (.cons (.idx (.var 0) (.cst (.int 0))) (.cons (.tup .nil) (.cons (.call .doors_of (.cons (.var 0) (.cons (.var 4) .nil))) (.cons (.cst (.bl false)) .nil)))))))
    .nil))
    (.cons (.for_ (.nm 5) (.val (.var 1)) (.cons (.asg (.nm 2) (.bin .add (.var 2) (.call .fact_rows (.cons (.var 0) (.cons (.var 5) .nil)))))
    .nil))
    (.cons (.ret (.var 2))
    .nil))))), true, none⟩
def d_cuts_of : PDef := ⟨2, 6,
    (.cons (.asg (.nm 2) (.fl (.disp (.cons (.tup .nil) .nil))))
    (.cons (.for_ (.nm 3) (.rng (.var 0)) (.cons (.asg (.nm 2) (.fl (.comp2 [4, 5] (.nm 4) (.val (.var 2)) [5] (.nm 5) (.rng (.bin .add (.var 1) (.cst (.int 1)))) (.or (.cmp .eq (.var 4) (.tup .nil)) (.cmp .le (.idx (.var 4) (.neg (.cst (.int 1)))) (.var 5))) (.bin .add (.var 4) (.tup (.cons (.var 5) .nil))))))
    .nil))
    (.cons (.ret (.var 2))
    .nil))), true, none⟩
def d_all_blocks : PDef := ⟨2, 5,
    (.cons (.asg (.nm 2) (.fl (.disp .nil)))
    (.cons (.for_ (.nm 3) (.val (.tup (.cons (.cst (.int 0)) (.cons (.cst (.int 1)) .nil)))) (.cons (.asg (.nm 2) (.bin .add (.var 2) (.fl (.comp [4] (.nm 4) (.val (.call .cuts_of (.cons (.blt .len (.cons (.var 1) .nil)) (.cons (.bin .sub (.idx (.var 0) (.bin .add (.cst (.int 1)) (.var 3))) (.cst (.int 1))) .nil)))) (.cst (.bl true)) (.tup (.cons (.var 3) (.cons (.var 4) .nil)))))))
    .nil))
    (.cons (.ret (.var 2))
    .nil))), true, none⟩
def d_all_ways : PDef := ⟨2, 6,
    (.cons (.asg (.tp [(.nm 2), (.nm 3)]) (.tup (.cons (.call .cuts_of (.cons (.blt .len (.cons (.var 1) .nil)) (.cons (.idx (.var 0) (.cst (.int 1))) .nil))) (.cons (.call .cuts_of (.cons (.blt .len (.cons (.var 1) .nil)) (.cons (.idx (.var 0) (.cst (.int 2))) .nil))) .nil))))
    (.cons (.ret (.fl (.comp2 [4, 5] (.nm 4) (.val (.var 2)) [5] (.nm 5) (.val (.var 3)) (.cst (.bl true)) (.tup (.cons (.var 4) (.cons (.var 5) .nil))))))
    .nil)), true, none⟩
def d_rows_of_block : PDef := ⟨4, 9,
    (.cons (.par [4, 5, 6] (.cons (.call .doors_of (.cons (.var 0) (.cons (.var 2) .nil))) (.cons (.nl (.disp .nil)) (.cons (.cst (.int 0)) .nil))))
    (.cons (.for_ (.tp [(.nm 7), (.nm 8)]) (.zip (.call .rooms (.cons (.var 0) (.cons (.var 1) .nil))) (.bin .add (.var 3) (.tup (.cons (.bin .sub (.blt .len (.cons (.var 4) .nil)) (.cst (.int 1))) .nil)))) (.cons (.app (.var 5) (.call .row_of (.cons (.var 0) (.cons (.neg (.var 7)) (.cons (.sl (.var 4) (.var 6) (.bin .add (.var 8) (.cst (.int 1)))) (.cons (.tup .nil) (.cons (.cst (.bl true)) .nil)))))))
    (.cons (.asg (.nm 6) (.var 8))
    .nil)))
    (.cons (.ret (.var 5))
    .nil))), true, none⟩
def d_rows_of_way : PDef := ⟨4, 9,
    (.cons (.par [4, 5, 6] (.cons (.call .doors_of (.cons (.var 0) (.cons (.var 2) .nil))) (.cons (.nl (.disp .nil)) (.cons (.cst (.int 0)) .nil))))
    (.cons (.for_ (.tp [(.nm 7), (.nm 8)]) (.zip (.call .rooms (.cons (.var 0) (.cons (.var 1) .nil))) (.bin .add (.var 3) (.tup (.cons (.blt .len (.cons (.var 4) .nil)) .nil)))) (.cons (.app (.var 5) (.call .row_of (.cons (.var 0) (.cons (.var 7) (.cons (.tup .nil) (.cons (.sl (.var 4) (.var 6) (.var 8)) (.cons (.cst (.bl false)) .nil)))))))
    (.cons (.asg (.nm 6) (.var 8))
    .nil)))
    (.cons (.ret (.var 5))
    .nil))), true, none⟩
def d_rows : PDef := ⟨2, 2,
    (.cons (.ex (.call .need_facts (.cons (.var 0) (.cons (.var 1) .nil))))
    (.cons (.ret (.call .all_rows (.cons (.var 0) (.cons (.var 1) .nil))))
    .nil)), true, none⟩
def d_need_both : PDef := ⟨2, 2,
    (.cons (.ex (.call .need_wardrobe (.cons (.var 0) .nil)))
    (.cons (.ex (.call .need_shelves (.cons (.var 0) (.cons (.var 1) .nil))))
    .nil)), true, none⟩
def d_blocks : PDef := ⟨2, 2,
    (.cons (.ex (.call .need_both (.cons (.var 0) (.cons (.var 1) .nil))))
    (.cons (.ret (.call .all_blocks (.cons (.var 0) (.cons (.var 1) .nil))))
    .nil)), true, none⟩
def d_ways : PDef := ⟨2, 2,
    (.cons (.ex (.call .need_both (.cons (.var 0) (.cons (.var 1) .nil))))
    (.cons (.ret (.call .all_ways (.cons (.var 0) (.cons (.var 1) .nil))))
    .nil)), true, none⟩
def d_need_cut : PDef := ⟨5, 7,
    (.cons (.ex (.call .need_both (.cons (.var 0) (.cons (.var 1) .nil))))
    (.cons (.ifs (.not (.call .is_whole (.cons (.var 2) (.cons (.cst (.int 0)) (.cons (.cst (.int 1)) .nil))))) (.cons (.raise .InvalidNumber .nil)
    .nil) .nil)
    (.cons (.asg (.nm 5) (.bin .sub (.idx (.var 0) (.bin .add (.cst (.int 1)) (.var 2))) (.var 4)))
    (.cons (.ifs (.or (.not (.isi (.var 3) .tuple)) (.cmp .ne (.fl (.comp [6] (.nm 6) (.val (.var 3)) (.not (.call .is_whole (.cons (.var 6) (.cons (.cst (.int 0)) (.cons (.var 5) .nil))))) (.var 6))) (.fl (.disp .nil)))) (.cons (.raise .InvalidNumber .nil)
    .nil) .nil)
    (.cons (.ifs (.cmp .notin (.var 3) (.call .cuts_of (.cons (.blt .len (.cons (.var 1) .nil)) (.cons (.var 5) .nil)))) (.cons (.raise .InvalidNumber .nil)
    .nil) .nil)
    .nil))))), true, none⟩
def d_block_rows : PDef := ⟨4, 4,
    (.cons (.ex (.call .need_cut (.cons (.var 0) (.cons (.var 1) (.cons (.var 2) (.cons (.var 3) (.cons (.cst (.int 1)) .nil)))))))
    (.cons (.ret (.call .rows_of_block (.cons (.var 0) (.cons (.var 1) (.cons (.var 2) (.cons (.var 3) .nil))))))
    .nil)), true, none⟩
def d_way_rows : PDef := ⟨4, 4,
    (.cons (.ex (.call .need_cut (.cons (.var 0) (.cons (.var 1) (.cons (.var 2) (.cons (.var 3) (.cons (.cst (.int 0)) .nil)))))))
    (.cons (.ret (.call .rows_of_way (.cons (.var 0) (.cons (.var 1) (.cons (.var 2) (.cons (.var 3) .nil))))))
    .nil)), true, none⟩
def d_l_way_lines : PDef := ⟨4, 9,
    (.cons (.par [4, 5, 6] (.cons (.idx (.call .l_rails (.cons (.var 0) .nil)) (.var 2)) (.cons (.nl (.disp .nil)) (.cons (.cst (.int 0)) .nil))))
    (.cons (.for_ (.tp [(.nm 7), (.nm 8)]) (.zip (.call .l_rooms (.cons (.var 0) (.cons (.var 1) .nil))) (.bin .add (.var 3) (.tup (.cons (.cst (.int 9)) .nil)))) (.cons (.app (.var 5) (.call .l_line (.cons (.var 0) (.cons (.var 7) (.cons (.fl (.disp .nil)) (.cons (.sl (.var 4) (.var 6) (.var 8)) (.cons (.cst (.bl false)) .nil)))))))
    (.cons (.asg (.nm 6) (.var 8))
    .nil)))
    (.cons (.ret (.var 5))
    .nil))), true, none⟩
def d_l_block_lines : PDef := ⟨4, 9,
    (.cons (.par [4, 5, 6] (.cons (.idx (.call .l_rails (.cons (.var 0) .nil)) (.var 2)) (.cons (.nl (.disp .nil)) (.cons (.cst (.int 0)) .nil))))
    (.cons (.for_ (.tp [(.nm 7), (.nm 8)]) (.zip (.call .l_rooms (.cons (.var 0) (.cons (.var 1) .nil))) (.bin .add (.var 3) (.tup (.cons (.cst (.int 9)) .nil)))) (.cons (.app (.var 5) (.call .l_line (.cons (.var 0) (.cons (.neg (.var 7)) (.cons (.sl (.var 4) (.var 6) (.bin .add (.var 8) (.cst (.int 1)))) (.cons (.fl (.disp .nil)) (.cons (.cst (.bl true)) .nil)))))))
    (.cons (.asg (.nm 6) (.var 8))
    .nil)))
    (.cons (.ret (.var 5))
    .nil))), true, none⟩
def d_l_told_right : PDef := ⟨2, 11,
    (.cons (.par [5, 3] (.cons (.blt .len (.cons (.var 1) .nil)) (.cons (.fl (.disp .nil)) .nil)))
    (.cons (.for_ (.nm 2) (.val (.tup (.cons (.cst (.int 0)) (.cons (.cst (.int 1)) .nil)))) (.cons (.asg (.nm 6) (.idx (.var 0) (.bin .add (.cst (.int 1)) (.var 2))))
    (.cons (.asg (.nm 3) (.bin .add (.var 3) (.fl (.comp [9] (.nm 9) (.val (.call .l_cuts (.cons (.var 5) (.cons (.bin .sub (.var 6) (.cst (.int 1))) .nil)))) (.cst (.bl true)) (.tup (.cons (.var 2) (.cons (.var 9) .nil)))))))
    (.cons (.for_ (.nm 7) (.val (.call .l_cuts (.cons (.var 5) (.cons (.var 6) .nil)))) (.cons (.ifs (.cmp .ne (.call .way_rows (.cons (.var 0) (.cons (.var 1) (.cons (.var 2) (.cons (.var 7) .nil))))) (.call .l_way_lines (.cons (.var 0) (.cons (.var 1) (.cons (.var 2) (.cons (.var 7) .nil)))))) (.cons (.ret (.cst (.bl false)))
    .nil) .nil)
    .nil))
    .nil))))
    (.cons (.ifs (.cmp .ne (.call .blocks (.cons (.var 0) (.cons (.var 1) .nil))) (.var 3)) (.cons (.ret (.cst (.bl false)))
    .nil) .nil)
    (.cons (.for_ (.tp [(.nm 2), (.nm 8)]) (.val (.var 3)) (.cons (.ifs (.cmp .ne (.call .block_rows (.cons (.var 0) (.cons (.var 1) (.cons (.var 2) (.cons (.var 8) .nil))))) (.call .l_block_lines (.cons (.var 0) (.cons (.var 1) (.cons (.var 2) (.cons (.var 8) .nil)))))) (.cons (.ret (.cst (.bl false)))
    .nil) .nil)
    .nil))
    (.cons (.asg (.nm 3) (.fl (.disp .nil)))
    (.cons (.for_ (.nm 4) (.val (.call .l_cuts (.cons (.var 5) (.cons (.idx (.var 0) (.cst (.int 1))) .nil)))) (.cons (.asg (.nm 3) (.bin .add (.var 3) (.fl (.comp [10] (.nm 10) (.val (.call .l_cuts (.cons (.var 5) (.cons (.idx (.var 0) (.cst (.int 2))) .nil)))) (.cst (.bl true)) (.tup (.cons (.var 4) (.cons (.var 10) .nil)))))))
    .nil))
    (.cons (.ret (.cmp .eq (.call .ways (.cons (.var 0) (.cons (.var 1) .nil))) (.var 3)))
    .nil))))))), true, none⟩
def d_l_by_hand : PDef := ⟨0, 2,
    (.cons (.asg (.tp [(.nm 0), (.nm 1)]) (.tup (.cons (.tup (.cons (.cst (.int 10)) (.cons (.cst (.int 2)) (.cons (.cst (.int 1)) .nil)))) (.cons (.tup (.cons (.tup (.cons (.cst (.int 0)) (.cons (.cst (.int 2)) .nil))) (.cons (.tup (.cons (.cst (.int 8)) (.cons (.cst (.int 10)) .nil))) .nil))) .nil))))
    (.cons (.ifs (.cmp .ne (.slf (.call .rows (.cons (.var 0) (.cons (.tup (.cons (.tup (.cons (.cst (.str "sum")) (.cons (.tup (.cons (.cst (.int 2)) .nil)) (.cons (.cst (.int 5)) (.cons (.cst (.int 6)) .nil))))) .nil)) .nil))) (.cst (.int 4))) (.fl (.disp (.cons (.tup (.cons (.cst (.int 10)) (.cons (.cst (.int 0)) (.cons (.cst (.int 0)) (.cons (.neg (.cst (.int 1))) (.cons (.cst (.bl false)) .nil)))))) (.cons (.tup (.cons (.neg (.cst (.int 5))) (.cons (.cst (.int 0)) (.cons (.cst (.int 0)) (.cons (.cst (.int 1)) (.cons (.cst (.bl false)) .nil)))))) (.cons (.tup (.cons (.cst (.int 6)) (.cons (.cst (.int 0)) (.cons (.cst (.int 0)) (.cons (.neg (.cst (.int 1))) (.cons (.cst (.bl false)) .nil)))))) .nil)))))) (.cons (.ret (.cst (.bl false)))
    .nil) .nil)
    (.cons (.ifs (.or (.cmp .ne (.call .blocks (.cons (.var 0) (.cons (.var 1) .nil))) (.fl (.disp (.cons (.tup (.cons (.cst (.int 0)) (.cons (.tup (.cons (.cst (.int 0)) (.cons (.cst (.int 0)) .nil))) .nil))) (.cons (.tup (.cons (.cst (.int 0)) (.cons (.tup (.cons (.cst (.int 0)) (.cons (.cst (.int 1)) .nil))) .nil))) (.cons (.tup (.cons (.cst (.int 0)) (.cons (.tup (.cons (.cst (.int 1)) (.cons (.cst (.int 1)) .nil))) .nil))) (.cons (.tup (.cons (.cst (.int 1)) (.cons (.tup (.cons (.cst (.int 0)) (.cons (.cst (.int 0)) .nil))) .nil))) .nil))))))) (.cmp .ne (.blt .len (.cons (.call .ways (.cons (.var 0) (.cons (.var 1) .nil))) .nil)) (.cst (.int 18)))) (.cons (.ret (.cst (.bl false)))
    .nil) .nil)
    (.cons (.ifs (.cmp .ne (.call .block_rows (.cons (.var 0) (.cons (.tup (.cons (.tup (.cons (.cst (.int 4)) (.cons (.cst (.int 6)) .nil))) .nil)) (.cons (.cst (.int 0)) (.cons (.tup (.cons (.cst (.int 1)) .nil)) .nil))))) (.fl (.disp (.cons (.tup (.cons (.neg (.cst (.int 4))) (.cons (.cst (.int 1)) (.cons (.cst (.int 1)) (.cons (.cst (.int 0)) (.cons (.cst (.bl true)) .nil)))))) (.cons (.tup (.cons (.neg (.cst (.int 4))) (.cons (.cst (.int 0)) (.cons (.cst (.int 1)) (.cons (.cst (.int 0)) (.cons (.cst (.bl true)) .nil)))))) .nil))))) (.cons (.ret (.cst (.bl false)))
    .nil) .nil)
    (.cons (.ifs (.cmp .ne (.call .way_rows (.cons (.var 0) (.cons (.var 1) (.cons (.cst (.int 0)) (.cons (.tup (.cons (.cst (.int 0)) (.cons (.cst (.int 1)) .nil))) .nil))))) (.fl (.disp (.cons (.tup (.cons (.cst (.int 0)) (.cons (.cst (.int 0)) (.cons (.cst (.int 0)) (.cons (.cst (.int 0)) (.cons (.cst (.bl false)) .nil)))))) (.cons (.tup (.cons (.cst (.int 6)) (.cons (.neg (.cst (.int 1))) (.cons (.cst (.int 0)) (.cons (.cst (.int 0)) (.cons (.cst (.bl false)) .nil)))))) (.cons (.tup (.cons (.cst (.int 0)) (.cons (.cst (.int 0)) (.cons (.neg (.cst (.int 1))) (.cons (.cst (.int 0)) (.cons (.cst (.bl false)) .nil)))))) .nil)))))) (.cons (.ret (.cst (.bl false)))
    .nil) .nil)
    (.cons (.ifs (.cmp .ne (.err (.call .block_rows (.cons (.var 0) (.cons (.tup (.cons (.tup (.cons (.cst (.int 4)) (.cons (.cst (.int 6)) .nil))) .nil)) (.cons (.cst (.int 0)) (.cons (.tup (.cons (.cst (.int 2)) .nil)) .nil)))))) (.cst (.str "number value"))) (.cons (.ret (.cst (.bl false)))
    .nil) .nil)
    (.cons (.ret (.cmp .eq (.call .block_rows (.cons (.var 0) (.cons (.var 1) (.cons (.cst (.int 0)) (.cons (.tup (.cons (.cst (.int 0)) (.cons (.cst (.int 1)) .nil))) .nil))))) (.fl (.disp (.cons (.tup (.cons (.cst (.int 0)) (.cons (.cst (.int 1)) (.cons (.cst (.int 0)) (.cons (.cst (.int 0)) (.cons (.cst (.bl true)) .nil)))))) (.cons (.tup (.cons (.neg (.cst (.int 6))) (.cons (.cst (.int 1)) (.cons (.cst (.int 1)) (.cons (.cst (.int 0)) (.cons (.cst (.bl true)) .nil)))))) (.cons (.tup (.cons (.cst (.int 0)) (.cons (.cst (.int 0)) (.cons (.cst (.int 1)) (.cons (.cst (.int 0)) (.cons (.cst (.bl true)) .nil)))))) .nil)))))))
    .nil))))))), true, none⟩
def d_law_k03 : PDef := ⟨1, 11,
    (.cons (.for_ (.nm 1) (.rng (.blt .max2 (.cons (.cst (.int 6)) (.cons (.blt .min2 (.cons (.cst (.int 14)) (.cons (.blt .len (.cons (.var 0) .nil)) .nil))) .nil)))) (.cons (.asg (.nm 2) (.call .l_vat (.cons (.var 0) (.cons (.var 1) .nil))))
    (.cons (.for_ (.nm 3) (.rng (.cst (.int 3))) (.cons (.asg (.nm 5) (.call .l_wardrobe (.cons (.var 2) (.cons (.cst (.int 6)) .nil))))
    (.cons (.asg (.nm 6) (.blt .tuple (.cons (.fl (.comp [9] (.nm 9) (.rng (.call .l_under (.cons (.var 2) (.cons (.cst (.int 6)) .nil)))) (.cst (.bl true)) (.call .l_fact (.cons (.var 2) (.cons (.var 5) .nil))))) .nil)))
    (.cons (.ifs (.cmp .ne (.call .rows (.cons (.var 5) (.cons (.var 6) .nil))) (.call .l_lines (.cons (.var 5) (.cons (.var 6) .nil)))) (.cons (.ret (.cst (.bl false)))
    .nil) .nil)
    (.cons (.ifs (.not (.call .l_told_right (.cons (.var 5) (.cons (.call .l_shelves (.cons (.var 2) (.cons (.var 5) .nil))) .nil)))) (.cons (.ret (.cst (.bl false)))
    .nil) .nil)
    .nil)))))
    (.cons (.for_ (.tp [(.nm 7), (.nm 8)]) (.val (.fl (.disp (.cons (.tup (.cons (.cst (.int 2)) (.cons (.tup (.cons (.cst (.int 0)) .nil)) .nil))) (.cons (.tup (.cons (.cst .non) (.cons (.cst .non) .nil))) (.cons (.tup (.cons (.cst (.bl true)) (.cons (.tup (.cons (.cst (.int 0)) .nil)) .nil))) (.cons (.tup (.cons (.cst (.int 0)) (.cons (.cst .non) .nil))) (.cons (.tup (.cons (.cst (.int 0)) (.cons (.tup (.cons (.cst (.int 9)) .nil)) .nil))) (.cons (.tup (.cons (.cst (.int 1)) (.cons (.tup .nil) .nil))) (.cons (.tup (.cons (.cst (.int 0)) (.cons (.fl (.disp (.cons (.cst (.int 0)) .nil))) .nil))) (.cons (.tup (.cons (.cst (.int 0)) (.cons (.tup (.cons (.cst (.int 0)) (.cons (.cst (.int 0)) (.cons (.cst (.int 0)) .nil)))) .nil))) (.cons (.tup (.cons (.cst (.int 0)) (.cons (.tup (.cons (.neg (.cst (.int 1))) .nil)) .nil))) .nil)))))))))))) (.cons (.ifs (.cmp .ne (.fl (.comp [10] (.nm 10) (.val (.tup (.cons (.fn .block_rows) (.cons (.fn .way_rows) .nil)))) (.cst (.bl true)) (.err (.callv (.var 10) (.cons (.var 5) (.cons (.tup (.cons (.tup (.cons (.cst (.int 0)) (.cons (.cst (.int 1)) .nil))) .nil)) (.cons (.var 7) (.cons (.var 8) .nil)))))))) (.bin .mul (.fl (.disp (.cons (.cst (.str "number value")) .nil))) (.cst (.int 2)))) (.cons (.ret (.cst (.bl false)))
    .nil) .nil)
    .nil))
    (.cons (.asg (.nm 4) (.fl (.comp [10] (.nm 10) (.val (.tup (.cons (.fn .blocks) (.cons (.fn .ways) .nil)))) (.cst (.bl true)) (.err (.callv (.var 10) (.cons (.var 5) (.cons (.cst .non) .nil)))))))
    (.cons (.ifs (.cmp .ne (.bin .add (.var 4) (.fl (.disp (.cons (.err (.call .rows (.cons (.var 5) (.cons (.cst .non) .nil)))) .nil)))) (.bin .add (.bin .mul (.fl (.disp (.cons (.cst (.str "shelves value")) .nil))) (.cst (.int 2))) (.fl (.disp (.cons (.cst (.str "facts value")) .nil))))) (.cons (.ret (.cst (.bl false)))
    .nil) .nil)
    .nil))))))
    (.cons (.ret (.call .l_by_hand .nil))
    .nil)), true, none⟩
def d_entering : PDef := ⟨1, 2,
    (.cons (.for_ (.nm 1) (.rng (.bin .sub (.blt .len (.cons (.var 0) .nil)) (.cst (.int 1)))) (.cons (.ifs (.cmp .lt (.idx (.var 0) (.var 1)) (.cst (.int 0))) (.cons (.ret (.var 1))
    .nil) .nil)
    .nil))
    (.cons (.ret (.cst .non))
    .nil)), true, none⟩
def d_leaving : PDef := ⟨3, 7,
    (.cons (.asg (.nm 3) (.cst .non))
    (.cons (.for_ (.tp [(.nm 4), (.nm 5)]) (.enum (.var 0)) (.cons (.ifs (.cmp .gt (.idx (.var 5) (.var 2)) (.cst (.int 0))) (.cons (.ifs (.cmp .is (.var 3) (.cst .non)) (.cons (.asg (.nm 3) (.var 4))
    .nil) (.cons (.asg (.nm 6) (.bin .sub (.bin .mul (.idx (.var 5) (.neg (.cst (.int 1)))) (.idx (.idx (.var 0) (.var 3)) (.var 2))) (.bin .mul (.idx (.idx (.var 0) (.var 3)) (.neg (.cst (.int 1)))) (.idx (.var 5) (.var 2)))))
    (.cons (.ifs (.or (.cmp .lt (.var 6) (.cst (.int 0))) (.and (.cmp .eq (.var 6) (.cst (.int 0))) (.cmp .lt (.idx (.var 1) (.var 4)) (.idx (.var 1) (.var 3))))) (.cons (.asg (.nm 3) (.var 4))
    .nil) .nil)
    .nil)))
    .nil) .nil)
    .nil))
    (.cons (.ret (.var 3))
    .nil))), true, none⟩
def d_turned : PDef := ⟨4, 6,
    (.cons (.ret (.fl (.comp [4, 5] (.tp [(.nm 4), (.nm 5)]) (.zip (.var 0) (.var 1)) (.cst (.bl true)) (.bin .fdiv (.bin .sub (.bin .mul (.var 4) (.idx (.var 1) (.var 2))) (.bin .mul (.idx (.var 0) (.var 2)) (.var 5))) (.var 3)))))
    .nil), true, none⟩
def d_grown : PDef := ⟨2, 17,
    (.cons (.asg (.tp [(.nm 6), (.nm 7), (.nm 8)]) (.tup (.cons (.blt .len (.cons (.var 1) .nil)) (.cons (.blt .len (.cons (.var 0) .nil)) (.cons (.nl (.disp .nil)) .nil)))))
    (.cons (.for_ (.tp [(.nm 5), (.tp [(.nm 12), (.nm 13)])]) (.enum (.var 0)) (.cons (.app (.var 8) (.bin .add (.bin .add (.fl (.ofl (.var 12))) (.fl (.comp [14] (.nm 14) (.rng (.var 7)) (.cst (.bl true)) (.blt .int (.cons (.cmp .eq (.var 14) (.var 5)) .nil))))) (.fl (.disp (.cons (.var 13) .nil)))))
    .nil))
    (.cons (.asg (.nm 2) (.nl (.comp [5] (.nm 5) (.rng (.var 7)) (.cst (.bl true)) (.bin .add (.var 6) (.var 5)))))
    (.cons (.asg (.tp [(.nm 9), (.nm 10)]) (.tup (.cons (.bin .add (.fl (.comp [15] (.nm 15) (.val (.var 1)) (.cst (.bl true)) (.neg (.var 15)))) (.bin .mul (.fl (.disp (.cons (.cst (.int 0)) .nil))) (.bin .add (.var 7) (.cst (.int 1))))) (.cons (.cst (.int 1)) .nil))))
    (.cons (.asg (.nm 3) (.call .entering (.cons (.var 9) .nil)))
    (.cons (.whl (.cmp .isnot (.var 3) (.cst .non)) (.cons (.asg (.nm 5) (.call .leaving (.cons (.var 8) (.cons (.var 2) (.cons (.var 3) .nil)))))
    (.cons (.asg (.nm 11) (.idx (.var 8) (.var 5)))
    (.cons (.asg (.nm 8) (.fl (.comp [16] (.nm 16) (.rng (.var 7)) (.cst (.bl true)) (.ife (.cmp .eq (.var 16) (.var 5)) (.var 11) (.call .turned (.cons (.idx (.var 8) (.var 16)) (.cons (.var 11) (.cons (.var 3) (.cons (.var 10) .nil)))))))))
    (.cons (.asg (.nm 9) (.call .turned (.cons (.var 9) (.cons (.var 11) (.cons (.var 3) (.cons (.var 10) .nil))))))
    (.cons (.setI2 (.var 2) (.var 5) 10 (.var 3) (.idx (.var 11) (.var 3)))
    (.cons (.asg (.nm 3) (.call .entering (.cons (.var 9) .nil)))
    .nil)))))))
    (.cons (.asg (.nm 4) (.nl (.rep (.fl (.disp (.cons (.cst (.int 0)) .nil))) (.var 6))))
    (.cons (.for_ (.nm 5) (.rng (.var 7)) (.cons (.ifs (.cmp .lt (.idx (.var 2) (.var 5)) (.var 6)) (.cons (.setI (.var 4) (.idx (.var 2) (.var 5)) (.idx (.idx (.var 8) (.var 5)) (.neg (.cst (.int 1)))))
    .nil) .nil)
    .nil))
    (.cons (.ret (.tup (.cons (.var 4) (.cons (.sl (.var 9) (.var 6) (.bin .add (.var 6) (.var 7))) (.cons (.var 10) .nil)))))
    .nil))))))))), true, none⟩
def d_judged : PDef := ⟨1, 12,
    (.cons (.asg (.nm 1) (.bin .sub (.blt .len (.cons (.idx (.var 0) (.cst (.int 0))) .nil)) (.cst (.int 2))))
    (.cons (.asg (.nm 2) (.nl (.disp .nil)))
    (.cons (.for_ (.nm 3) (.val (.var 0)) (.cons (.app (.var 2) (.tup (.cons (.bin .add (.fl (.comp [10] (.nm 10) (.val (.sl (.var 3) (.cst (.int 1)) (.neg (.cst (.int 1))))) (.cst (.bl true)) (.neg (.var 10)))) (.fl (.disp (.cons (.neg (.idx (.var 3) (.cst (.int 0)))) (.cons (.blt .int (.cons (.idx (.var 3) (.neg (.cst (.int 1)))) .nil)) .nil))))) (.cons (.cst (.int 0)) .nil))))
    .nil))
    (.cons (.app (.var 2) (.tup (.cons (.bin .add (.bin .mul (.fl (.disp (.cons (.cst (.int 0)) .nil))) (.var 1)) (.fl (.disp (.cons (.neg (.cst (.int 1))) (.cons (.cst (.int 1)) .nil))))) (.cons (.cst (.int 0)) .nil))))
    (.cons (.app (.var 2) (.tup (.cons (.bin .add (.bin .mul (.fl (.disp (.cons (.cst (.int 1)) .nil))) (.bin .add (.var 1) (.cst (.int 1)))) (.fl (.disp (.cons (.cst (.int 0)) .nil)))) (.cons (.cst (.int 1)) .nil))))
    (.cons (.asg (.tp [(.nm 6), (.nm 7), (.nm 8)]) (.call .grown (.cons (.var 2) (.cons (.bin .add (.bin .mul (.fl (.disp (.cons (.cst (.int 0)) .nil))) (.bin .add (.var 1) (.cst (.int 1)))) (.fl (.disp (.cons (.cst (.int 1)) .nil)))) .nil))))
    (.cons (.ifs (.cmp .gt (.idx (.var 6) (.bin .add (.var 1) (.cst (.int 1)))) (.cst (.int 0))) (.cons (.ret (.tup (.cons (.blt .tuple (.cons (.fl (.comp [10] (.nm 10) (.val (.slt (.var 6) (.var 1))) (.cst (.bl true)) (.call .lowest (.cons (.var 10) (.cons (.idx (.var 6) (.var 1)) .nil))))) .nil)) (.cons (.cst .non) .nil))))
    .nil) .nil)
    (.cons (.asg (.nm 4) (.nl (.ofl (.slt (.var 7) (.blt .len (.cons (.var 0) .nil))))))
    (.cons (.for_ (.nm 5) (.rng (.var 1)) (.cons (.asg (.nm 9) (.blt .sum (.cons (.fl (.comp [11, 3] (.tp [(.nm 11), (.nm 3)]) (.zip (.var 7) (.var 0)) (.cst (.bl true)) (.bin .mul (.var 11) (.idx (.var 3) (.bin .add (.cst (.int 1)) (.var 5)))))) .nil)))
    (.cons (.setI (.var 4) (.var 5) (.bin .sub (.idx (.var 4) (.var 5)) (.var 9)))
    .nil)))
    (.cons (.ret (.tup (.cons (.cst .non) (.cons (.blt .tuple (.cons (.var 4) .nil)) .nil))))
    .nil)))))))))), true, none⟩
def d_widths_of : PDef := ⟨2, 2,
    (.cons (.ret (.idx (.call .judged (.cons (.call .all_rows (.cons (.var 0) (.cons (.var 1) .nil))) .nil)) (.cst (.int 0))))
    .nil), true, none⟩
def d_need_possible : PDef := ⟨2, 2,
    (.cons (.ifs (.cmp .is (.call .widths_of (.cons (.var 0) (.cons (.var 1) .nil))) (.cst .non)) (.cons (.raise .Impossible .nil)
    .nil) .nil)
    .nil), true, none⟩
def d_barring : PDef := ⟨3, 7,
    (.cons (.asg (.nm 3) (.call .all_rows (.cons (.var 0) (.cons (.var 1) .nil))))
    (.cons (.for_ (.tp [(.nm 4), (.nm 5)]) (.val (.call .all_blocks (.cons (.var 0) (.cons (.var 2) .nil)))) (.cons (.asg (.nm 6) (.idx (.call .judged (.cons (.bin .add (.var 3) (.call .rows_of_block (.cons (.var 0) (.cons (.var 2) (.cons (.var 4) (.cons (.var 5) .nil)))))) .nil)) (.cst (.int 0))))
    (.cons (.ifs (.cmp .isnot (.var 6) (.cst .non)) (.cons (.ret (.var 6))
    .nil) .nil)
    .nil)))
    (.cons (.ret (.cst .non))
    .nil))), true, none⟩
def d_letting : PDef := ⟨3, 8,
    (.cons (.asg (.nm 3) (.call .all_rows (.cons (.var 0) (.cons (.var 1) .nil))))
    (.cons (.for_ (.tp [(.nm 4), (.nm 5)]) (.val (.call .all_ways (.cons (.var 0) (.cons (.var 2) .nil)))) (.cons (.asg (.nm 6) (.bin .add (.call .rows_of_way (.cons (.var 0) (.cons (.var 2) (.cons (.cst (.int 0)) (.cons (.var 4) .nil))))) (.call .rows_of_way (.cons (.var 0) (.cons (.var 2) (.cons (.cst (.int 1)) (.cons (.var 5) .nil)))))))
    (.cons (.asg (.nm 7) (.idx (.call .judged (.cons (.bin .add (.var 3) (.var 6)) .nil)) (.cst (.int 0))))
    (.cons (.ifs (.cmp .isnot (.var 7) (.cst .non)) (.cons (.ret (.var 7))
    .nil) .nil)
    .nil))))
    (.cons (.ret (.cst .non))
    .nil))), true, none⟩
def d_opened : PDef := ⟨3, 3,
    (.cons (.ifs (.cmp .is (.call .barring (.cons (.var 0) (.cons (.var 1) (.cons (.var 2) .nil)))) (.cst .non)) (.cons (.ret (.cst (.str "always")))
    .nil) .nil)
    (.cons (.ret (.ife (.cmp .is (.call .letting (.cons (.var 0) (.cons (.var 1) (.cons (.var 2) .nil)))) (.cst .non)) (.cst (.str "never")) (.cst (.str "sometimes"))))
    .nil)), true, none⟩
def d_need_asked : PDef := ⟨3, 3,
    (.cons (.ex (.call .need_facts (.cons (.var 0) (.cons (.var 1) .nil))))
    (.cons (.ex (.call .need_shelves (.cons (.var 0) (.cons (.var 2) .nil))))
    .nil)), true, none⟩
def d_how : PDef := ⟨3, 3,
    (.cons (.ex (.call .need_asked (.cons (.var 0) (.cons (.var 1) (.cons (.var 2) .nil)))))
    (.cons (.ex (.call .need_possible (.cons (.var 0) (.cons (.var 1) .nil))))
    (.cons (.ret (.call .opened (.cons (.var 0) (.cons (.var 1) (.cons (.var 2) .nil)))))
    .nil))), true, none⟩
def d_widths_for : PDef := ⟨4, 4,
    (.cons (.ex (.call .need_asked (.cons (.var 0) (.cons (.var 1) (.cons (.var 2) .nil)))))
    (.cons (.ifs (.not (.isi (.var 3) .bool)) (.cons (.raise .InvalidTruth .nil)
    .nil) .nil)
    (.cons (.ret (.ife (.var 3) (.call .letting (.cons (.var 0) (.cons (.var 1) (.cons (.var 2) .nil)))) (.call .barring (.cons (.var 0) (.cons (.var 1) (.cons (.var 2) .nil))))))
    .nil))), true, none⟩
def d_l_word : PDef := ⟨3, 12,
    (.cons (.par [6, 7, 8] (.cons (.call .l_lines (.cons (.var 0) (.cons (.var 1) .nil))) (.cons (.cst (.bl false)) (.cons (.cst (.bl false)) .nil))))
    (.cons (.ifs (.not (.call .l_can (.cons (.var 6) .nil))) (.cons (.ret (.cst (.str "")))
    .nil) .nil)
    (.cons (.asg (.nm 3) (.fl (.disp (.cons (.idx (.var 0) (.cst (.int 1))) (.cons (.idx (.var 0) (.cst (.int 2))) .nil)))))
    (.cons (.for_ (.nm 4) (.val (.tup (.cons (.cst (.int 0)) (.cons (.cst (.int 1)) .nil)))) (.cons (.for_ (.nm 9) (.val (.call .l_cuts (.cons (.blt .len (.cons (.var 2) .nil)) (.cons (.bin .sub (.idx (.var 3) (.var 4)) (.cst (.int 1))) .nil)))) (.cons (.asg (.nm 7) (.or (.var 7) (.call .l_can (.cons (.bin .add (.var 6) (.call .l_block_lines (.cons (.var 0) (.cons (.var 2) (.cons (.var 4) (.cons (.var 9) .nil)))))) .nil))))
    .nil))
    .nil))
    (.cons (.for_ (.nm 5) (.val (.call .l_cuts (.cons (.blt .len (.cons (.var 2) .nil)) (.cons (.idx (.var 3) (.cst (.int 0))) .nil)))) (.cons (.asg (.nm 10) (.bin .add (.var 6) (.call .l_way_lines (.cons (.var 0) (.cons (.var 2) (.cons (.cst (.int 0)) (.cons (.var 5) .nil)))))))
    (.cons (.for_ (.nm 11) (.val (.call .l_cuts (.cons (.blt .len (.cons (.var 2) .nil)) (.cons (.idx (.var 3) (.cst (.int 1))) .nil)))) (.cons (.asg (.nm 8) (.or (.var 8) (.call .l_can (.cons (.bin .add (.var 10) (.call .l_way_lines (.cons (.var 0) (.cons (.var 2) (.cons (.cst (.int 1)) (.cons (.var 11) .nil)))))) .nil))))
    .nil))
    .nil)))
    (.cons (.ifs (.and (.var 7) (.var 8)) (.cons (.ret (.cst (.str "sometimes")))
    .nil) .nil)
    (.cons (.ret (.ife (.var 7) (.cst (.str "never")) (.cst (.str "always"))))
    .nil))))))), true, none⟩
def d_l_told_right_k04 : PDef := ⟨3, 6,
    (.cons (.asg (.nm 3) (.call .l_word (.cons (.var 0) (.cons (.var 1) (.cons (.var 2) .nil)))))
    (.cons (.ifs (.cmp .eq (.var 3) (.cst (.str ""))) (.cons (.ifs (.cmp .ne (.err (.call .how (.cons (.var 0) (.cons (.var 1) (.cons (.var 2) .nil))))) (.cst (.str "impossible value"))) (.cons (.ret (.cst (.bl false)))
    .nil) .nil)
    .nil) (.cons (.ifs (.cmp .ne (.call .how (.cons (.var 0) (.cons (.var 1) (.cons (.var 2) .nil)))) (.var 3)) (.cons (.ret (.cst (.bl false)))
    .nil) .nil)
    .nil))
    (.cons (.for_ (.nm 4) (.val (.tup (.cons (.cst (.bl true)) (.cons (.cst (.bl false)) .nil)))) (.cons (.asg (.nm 5) (.call .widths_for (.cons (.var 0) (.cons (.var 1) (.cons (.var 2) (.cons (.var 4) .nil))))))
    (.cons (.ifs (.cmp .ne (.cmp .is (.var 5) (.cst .non)) (.cmp .inn (.var 3) (.fl (.disp (.cons (.cst (.str "")) (.cons (.ife (.var 4) (.cst (.str "never")) (.cst (.str "always"))) .nil)))))) (.cons (.ret (.cst (.bl false)))
    .nil) .nil)
    (.cons (.ifs (.cmp .isnot (.var 5) (.cst .non)) (.cons (.ifs (.or (.not (.call .l_are_widths (.cons (.var 0) (.cons (.var 5) .nil)))) (.not (.call .l_keeps (.cons (.var 1) (.cons (.var 5) .nil))))) (.cons (.ret (.cst (.bl false)))
    .nil) .nil)
    (.cons (.ifs (.cmp .ne (.call .l_opens (.cons (.var 0) (.cons (.var 2) (.cons (.var 5) .nil)))) (.var 4)) (.cons (.ret (.cst (.bl false)))
    .nil) .nil)
    .nil)) .nil)
    .nil))))
    (.cons (.ret (.cst (.bl true)))
    .nil)))), true, none⟩
def d_l_for : PDef := ⟨3, 3,
    (.cons (.ret (.err (.call .widths_for (.cons (.var 0) (.cons (.var 1) (.cons (.var 2) (.cons (.cst .non) .nil)))))))
    .nil), true, none⟩
def d_law_k04 : PDef := ⟨1, 16,
    (.cons (.for_ (.nm 1) (.rng (.blt .max2 (.cons (.cst (.int 5)) (.cons (.blt .min2 (.cons (.cst (.int 11)) (.cons (.blt .len (.cons (.var 0) .nil)) .nil))) .nil)))) (.cons (.asg (.nm 5) (.call .l_vat (.cons (.var 0) (.cons (.var 1) .nil))))
    (.cons (.for_ (.nm 6) (.rng (.cst (.int 2))) (.cons (.asg (.nm 13) (.call .l_wardrobe (.cons (.var 5) (.cons (.cst (.int 3)) .nil))))
    (.cons (.asg (.tp [(.nm 14), (.nm 15)]) (.tup (.cons (.call .l_facts (.cons (.var 5) (.cons (.var 13) (.cons (.cst (.int 3)) .nil)))) (.cons (.call .l_shelves (.cons (.var 5) (.cons (.var 13) .nil))) .nil))))
    (.cons (.ifs (.not (.call .l_told_right_k04 (.cons (.var 13) (.cons (.var 14) (.cons (.var 15) .nil))))) (.cons (.ret (.cst (.bl false)))
    .nil) .nil)
    .nil))))
    (.cons (.for_ (.nm 7) (.val (.fl (.disp (.cons (.cst .non) (.cons (.cst (.int 0)) (.cons (.cst (.int 1)) (.cons (.cst (.str "True")) .nil))))))) (.cons (.ifs (.cmp .ne (.err (.call .widths_for (.cons (.var 13) (.cons (.var 14) (.cons (.var 15) (.cons (.var 7) .nil)))))) (.cst (.str "truth value"))) (.cons (.ret (.cst (.bl false)))
    .nil) .nil)
    .nil))
    (.cons (.ifs (.or (.cmp .ne (.err (.call .how (.cons (.var 13) (.cons (.var 14) (.cons (.tup (.cons (.cst .non) .nil)) .nil))))) (.cst (.str "shelves value"))) (.cmp .ne (.call .l_for (.cons (.var 13) (.cons (.var 14) (.cons (.tup .nil) .nil)))) (.cst (.str "shelves value")))) (.cons (.ret (.cst (.bl false)))
    .nil) .nil)
    .nil)))))
    (.cons (.asg (.tp [(.nm 8), (.nm 9), (.nm 10)]) (.tup (.cons (.tup (.cons (.cst (.int 10)) (.cons (.cst (.int 2)) (.cons (.cst (.int 1)) .nil)))) (.cons (.tup (.cons (.tup (.cons (.cst (.int 4)) (.cons (.cst (.int 6)) .nil))) .nil)) (.cons (.tup (.cons (.tup (.cons (.cst (.int 0)) (.cons (.cst (.int 2)) .nil))) (.cons (.tup (.cons (.cst (.int 8)) (.cons (.cst (.int 10)) .nil))) .nil))) .nil)))))
    (.cons (.asg (.nm 2) (.tup (.cons (.tup (.cons (.cst (.str "sum")) (.cons (.tup (.cons (.cst (.int 0)) (.cons (.cst (.int 1)) .nil))) (.cons (.cst (.int 6)) (.cons (.cst (.int 8)) .nil))))) (.cons (.tup (.cons (.cst (.str "wider")) (.cons (.tup (.cons (.cst (.int 1)) .nil)) (.cons (.tup (.cons (.cst (.int 0)) .nil)) .nil)))) (.cons (.tup (.cons (.cst (.str "wider")) (.cons (.tup (.cons (.cst (.int 0)) .nil)) (.cons (.tup (.cons (.cst (.int 1)) .nil)) .nil)))) .nil)))))
    (.cons (.par [11, 12] (.cons (.bin .add (.var 2) (.tup (.cons (.tup (.cons (.cst (.str "sum")) (.cons (.tup (.cons (.cst (.int 2)) .nil)) (.cons (.cst (.int 3)) (.cons (.cst (.int 4)) .nil))))) .nil))) (.cons (.tup (.cons (.tup (.cons (.cst (.str "sum")) (.cons (.tup (.cons (.cst (.int 2)) .nil)) (.cons (.cst (.int 5)) (.cons (.cst (.int 6)) .nil))))) .nil)) .nil)))
    (.cons (.asg (.nm 3) (.fl (.disp (.cons (.call .how (.cons (.var 8) (.cons (.var 11) (.cons (.var 9) .nil)))) (.cons (.call .how (.cons (.var 8) (.cons (.var 2) (.cons (.var 9) .nil)))) (.cons (.call .how (.cons (.var 8) (.cons (.var 12) (.cons (.var 9) .nil)))) (.cons (.call .how (.cons (.var 8) (.cons (.var 2) (.cons (.var 10) .nil)))) (.cons (.call .how (.cons (.var 8) (.cons (.tup .nil) (.cons (.tup (.cons (.tup (.cons (.cst (.int 0)) (.cons (.cst (.int 10)) .nil))) .nil)) .nil)))) (.cons (.call .how (.cons (.var 8) (.cons (.var 2) (.cons (.tup (.cons (.tup (.cons (.cst (.int 3)) (.cons (.cst (.int 4)) .nil))) .nil)) .nil)))) .nil)))))))))
    (.cons (.ifs (.or (.cmp .ne (.var 3) (.fl (.disp (.cons (.cst (.str "always")) (.cons (.cst (.str "sometimes")) (.cons (.cst (.str "never")) (.cons (.cst (.str "sometimes")) (.cons (.cst (.str "never")) (.cons (.cst (.str "sometimes")) .nil))))))))) (.cmp .ne (.call .how (.cons (.var 8) (.cons (.var 11) (.cons (.tup (.cons (.tup (.cons (.cst (.int 0)) (.cons (.cst (.int 2)) .nil))) .nil)) .nil)))) (.cst (.str "always")))) (.cons (.ret (.cst (.bl false)))
    .nil) .nil)
    (.cons (.asg (.nm 4) (.call .widths_for (.cons (.var 8) (.cons (.var 2) (.cons (.var 10) (.cons (.cst (.bl true)) .nil))))))
    (.cons (.ret (.and (.cmp .eq (.slt (.var 4) (.cst (.int 2))) (.tup (.cons (.tup (.cons (.cst (.int 3)) (.cons (.cst (.int 1)) .nil))) (.cons (.tup (.cons (.cst (.int 3)) (.cons (.cst (.int 1)) .nil))) .nil)))) (.and (.call .l_told_right_k04 (.cons (.var 8) (.cons (.var 11) (.cons (.tup (.cons (.tup (.cons (.cst (.int 2)) (.cons (.cst (.int 4)) .nil))) (.cons (.tup (.cons (.cst (.int 7)) (.cons (.cst (.int 8)) .nil))) .nil))) .nil)))) (.call .l_told_right_k04 (.cons (.tup (.cons (.cst (.int 9)) (.cons (.cst (.int 1)) (.cons (.cst (.int 1)) .nil)))) (.cons (.tup .nil) (.cons (.tup (.cons (.tup (.cons (.cst (.int 0)) (.cons (.cst (.int 1)) .nil))) (.cons (.tup (.cons (.cst (.int 3)) (.cons (.cst (.int 4)) .nil))) .nil))) .nil)))))))
    .nil)))))))), true, none⟩
def d_are_weights : PDef := ⟨2, 7,
    (.cons (.ifs (.or (.not (.isi (.var 1) .tuple)) (.cmp .ne (.blt .len (.cons (.var 1) .nil)) (.blt .len (.cons (.var 0) .nil)))) (.cons (.ret (.cst (.bl false)))
    .nil) .nil)
    (.cons (.ifs (.cmp .ne (.fl (.comp [5] (.nm 5) (.val (.var 1)) (.or (.not (.isi (.var 5) .int)) (.or (.isi (.var 5) .bool) (.cmp .lt (.var 5) (.cst (.int 0))))) (.var 5))) (.fl (.disp .nil))) (.cons (.ret (.cst (.bl false)))
    .nil) .nil)
    (.cons (.asg (.nm 2) (.bin .mul (.fl (.disp (.cons (.cst (.int 0)) .nil))) (.bin .sub (.blt .len (.cons (.idx (.var 0) (.cst (.int 0))) .nil)) (.cst (.int 1)))))
    (.cons (.for_ (.tp [(.nm 3), (.nm 4)]) (.zip (.var 1) (.var 0)) (.cons (.asg (.nm 2) (.fl (.comp [6, 5] (.tp [(.nm 6), (.nm 5)]) (.zip (.var 2) (.var 4)) (.cst (.bl true)) (.bin .add (.var 6) (.bin .mul (.var 3) (.var 5))))))
    .nil))
    (.cons (.ifs (.or (.cmp .ne (.fl (.comp [5] (.nm 5) (.val (.slf (.var 2) (.cst (.int 1)))) (.cmp .ne (.var 5) (.cst (.int 0))) (.var 5))) (.fl (.disp .nil))) (.cmp .gt (.idx (.var 2) (.cst (.int 0))) (.cst (.int 0)))) (.cons (.ret (.cst (.bl false)))
    .nil) .nil)
    (.cons (.ret (.or (.cmp .lt (.idx (.var 2) (.cst (.int 0))) (.cst (.int 0))) (.cmp .ne (.fl (.comp [3, 4] (.tp [(.nm 3), (.nm 4)]) (.zip (.var 1) (.var 0)) (.and (.cmp .gt (.var 3) (.cst (.int 0))) (.idx (.var 4) (.neg (.cst (.int 1))))) (.cst (.int 1)))) (.fl (.disp .nil)))))
    .nil)))))), true, none⟩
def d_always_systems : PDef := ⟨3, 6,
    (.cons (.asg (.nm 3) (.call .all_rows (.cons (.var 0) (.cons (.var 1) .nil))))
    (.cons (.ret (.fl (.comp [4, 5] (.tp [(.nm 4), (.nm 5)]) (.val (.call .all_blocks (.cons (.var 0) (.cons (.var 2) .nil)))) (.cst (.bl true)) (.bin .add (.var 3) (.call .rows_of_block (.cons (.var 0) (.cons (.var 2) (.cons (.var 4) (.cons (.var 5) .nil)))))))))
    .nil)), true, none⟩
def d_never_systems : PDef := ⟨3, 8,
    (.cons (.par [3, 4] (.cons (.call .all_rows (.cons (.var 0) (.cons (.var 1) .nil))) (.cons (.nl (.disp .nil)) .nil)))
    (.cons (.for_ (.tp [(.nm 5), (.nm 6)]) (.val (.call .all_ways (.cons (.var 0) (.cons (.var 2) .nil)))) (.cons (.asg (.nm 7) (.bin .add (.call .rows_of_way (.cons (.var 0) (.cons (.var 2) (.cons (.cst (.int 0)) (.cons (.var 5) .nil))))) (.call .rows_of_way (.cons (.var 0) (.cons (.var 2) (.cons (.cst (.int 1)) (.cons (.var 6) .nil)))))))
    (.cons (.app (.var 4) (.bin .add (.var 3) (.var 7)))
    .nil)))
    (.cons (.ret (.var 4))
    .nil))), true, none⟩
def d_paper_of : PDef := ⟨1, 5,
    (.cons (.asg (.nm 1) (.nl (.disp .nil)))
    (.cons (.for_ (.nm 2) (.val (.var 0)) (.cons (.asg (.tp [(.nm 3), (.nm 4)]) (.call .judged (.cons (.var 2) .nil)))
    (.cons (.ifs (.cmp .is (.var 4) (.cst .non)) (.cons (.ret (.cst .non))
    .nil) .nil)
    (.cons (.app (.var 1) (.var 4))
    .nil))))
    (.cons (.ret (.blt .tuple (.cons (.var 1) .nil)))
    .nil))), true, none⟩
def d_is_paper : PDef := ⟨2, 4,
    (.cons (.ifs (.or (.not (.isi (.var 1) .tuple)) (.cmp .ne (.blt .len (.cons (.var 1) .nil)) (.blt .len (.cons (.var 0) .nil)))) (.cons (.ret (.cst (.bl false)))
    .nil) .nil)
    (.cons (.ret (.cmp .eq (.fl (.comp [2, 3] (.tp [(.nm 2), (.nm 3)]) (.zip (.var 0) (.var 1)) (.not (.call .are_weights (.cons (.var 2) (.cons (.var 3) .nil)))) (.cst (.int 1)))) (.fl (.disp .nil))))
    .nil)), true, none⟩
def d_always_paper : PDef := ⟨3, 3,
    (.cons (.ex (.call .need_asked (.cons (.var 0) (.cons (.var 1) (.cons (.var 2) .nil)))))
    (.cons (.ret (.call .paper_of (.cons (.call .always_systems (.cons (.var 0) (.cons (.var 1) (.cons (.var 2) .nil)))) .nil)))
    .nil)), true, none⟩
def d_never_paper : PDef := ⟨3, 3,
    (.cons (.ex (.call .need_asked (.cons (.var 0) (.cons (.var 1) (.cons (.var 2) .nil)))))
    (.cons (.ret (.call .paper_of (.cons (.call .never_systems (.cons (.var 0) (.cons (.var 1) (.cons (.var 2) .nil)))) .nil)))
    .nil)), true, none⟩
def d_is_always_paper : PDef := ⟨4, 4,
    (.cons (.ex (.call .need_asked (.cons (.var 0) (.cons (.var 1) (.cons (.var 2) .nil)))))
    (.cons (.ret (.call .is_paper (.cons (.call .always_systems (.cons (.var 0) (.cons (.var 1) (.cons (.var 2) .nil)))) (.cons (.var 3) .nil))))
    .nil)), true, none⟩
def d_is_never_paper : PDef := ⟨4, 4,
    (.cons (.ex (.call .need_asked (.cons (.var 0) (.cons (.var 1) (.cons (.var 2) .nil)))))
    (.cons (.ret (.call .is_paper (.cons (.call .never_systems (.cons (.var 0) (.cons (.var 1) (.cons (.var 2) .nil)))) (.cons (.var 3) .nil))))
    .nil)), true, none⟩
def d_l_are_weights : PDef := ⟨2, 8,
    (.cons (.ifs (.or (.not (.isi (.var 1) .tuple)) (.cmp .ne (.blt .len (.cons (.var 1) .nil)) (.blt .len (.cons (.var 0) .nil)))) (.cons (.ret (.cst (.bl false)))
    .nil) .nil)
    (.cons (.ifs (.cmp .ne (.fl (.comp [7] (.nm 7) (.val (.var 1)) (.or (.not (.isi (.var 7) .int)) (.or (.isi (.var 7) .bool) (.cmp .lt (.var 7) (.cst (.int 0))))) (.var 7))) (.fl (.disp .nil))) (.cons (.ret (.cst (.bl false)))
    .nil) .nil)
    (.cons (.par [3, 4] (.cons (.nl (.disp .nil)) (.cons (.cst (.bl false)) .nil)))
    (.cons (.for_ (.nm 2) (.rng (.bin .sub (.blt .len (.cons (.idx (.var 0) (.cst (.int 0))) .nil)) (.cst (.int 1)))) (.cons (.app (.var 3) (.blt .sum (.cons (.fl (.comp [5, 6] (.tp [(.nm 5), (.nm 6)]) (.zip (.var 1) (.var 0)) (.cst (.bl true)) (.bin .mul (.var 5) (.idx (.var 6) (.var 2))))) .nil)))
    .nil))
    (.cons (.for_ (.tp [(.nm 5), (.nm 6)]) (.zip (.var 1) (.var 0)) (.cons (.asg (.nm 4) (.or (.var 4) (.and (.cmp .gt (.var 5) (.cst (.int 0))) (.idx (.var 6) (.neg (.cst (.int 1)))))))
    .nil))
    (.cons (.ifs (.cmp .ne (.fl (.comp [7] (.nm 7) (.val (.slf (.var 3) (.cst (.int 1)))) (.cmp .ne (.var 7) (.cst (.int 0))) (.var 7))) (.fl (.disp .nil))) (.cons (.ret (.cst (.bl false)))
    .nil) .nil)
    (.cons (.ret (.or (.cmp .lt (.idx (.var 3) (.cst (.int 0))) (.cst (.int 0))) (.and (.cmp .eq (.idx (.var 3) (.cst (.int 0))) (.cst (.int 0))) (.var 4))))
    .nil))))))), true, none⟩
def d_l_systems : PDef := ⟨4, 12,
    (.cons (.par [5, 6, 7] (.cons (.call .l_lines (.cons (.var 0) (.cons (.var 1) .nil))) (.cons (.nl (.disp .nil)) (.cons (.blt .len (.cons (.var 2) .nil)) .nil))))
    (.cons (.ifs (.var 3) (.cons (.for_ (.nm 8) (.val (.tup (.cons (.cst (.int 0)) (.cons (.cst (.int 1)) .nil)))) (.cons (.for_ (.nm 10) (.val (.call .l_cuts (.cons (.var 7) (.cons (.bin .sub (.idx (.var 0) (.bin .add (.cst (.int 1)) (.var 8))) (.cst (.int 1))) .nil)))) (.cons (.app (.var 6) (.bin .add (.var 5) (.call .l_block_lines (.cons (.var 0) (.cons (.var 2) (.cons (.var 8) (.cons (.var 10) .nil)))))))
    .nil))
    .nil))
    (.cons (.ret (.var 6))
    .nil)) .nil)
    (.cons (.for_ (.nm 4) (.val (.call .l_cuts (.cons (.var 7) (.cons (.idx (.var 0) (.cst (.int 1))) .nil)))) (.cons (.for_ (.nm 9) (.val (.call .l_cuts (.cons (.var 7) (.cons (.idx (.var 0) (.cst (.int 2))) .nil)))) (.cons (.asg (.nm 11) (.bin .add (.call .l_way_lines (.cons (.var 0) (.cons (.var 2) (.cons (.cst (.int 0)) (.cons (.var 4) .nil))))) (.call .l_way_lines (.cons (.var 0) (.cons (.var 2) (.cons (.cst (.int 1)) (.cons (.var 9) .nil)))))))
    (.cons (.app (.var 6) (.bin .add (.var 5) (.var 11)))
    .nil)))
    .nil))
    (.cons (.ret (.var 6))
    .nil)))), true, none⟩
def d_l_is_paper : PDef := ⟨2, 4,
    (.cons (.ifs (.or (.not (.isi (.var 1) .tuple)) (.cmp .ne (.blt .len (.cons (.var 1) .nil)) (.blt .len (.cons (.var 0) .nil)))) (.cons (.ret (.cst (.bl false)))
    .nil) .nil)
    (.cons (.ret (.cmp .eq (.fl (.comp [2, 3] (.tp [(.nm 2), (.nm 3)]) (.zip (.var 0) (.var 1)) (.not (.call .l_are_weights (.cons (.var 2) (.cons (.var 3) .nil)))) (.cst (.int 1)))) (.fl (.disp .nil))))
    .nil)), true, none⟩
def d_l_told_right_k05 : PDef := ⟨4, 18,
    (.cons (.for_ (.nm 4) (.val (.tup (.cons (.cst (.bl true)) (.cons (.cst (.bl false)) .nil)))) (.cons (.asg (.nm 5) (.call .l_systems (.cons (.var 1) (.cons (.var 2) (.cons (.var 3) (.cons (.var 4) .nil))))))
    (.cons (.asg (.nm 6) (.cmp .eq (.fl (.comp [10] (.nm 10) (.val (.var 5)) (.call .l_can (.cons (.var 10) .nil)) (.var 10))) (.fl (.disp .nil))))
    (.cons (.asg (.nm 7) (.ife (.var 4) (.fn .always_paper) (.fn .never_paper)))
    (.cons (.asg (.nm 8) (.callv (.var 7) (.cons (.var 1) (.cons (.var 2) (.cons (.var 3) .nil)))))
    (.cons (.ifs (.cmp .ne (.cmp .isnot (.var 8) (.cst .non)) (.var 6)) (.cons (.ret (.cst (.bl false)))
    .nil) .nil)
    (.cons (.ifs (.and (.cmp .isnot (.var 8) (.cst .non)) (.not (.call .l_is_paper (.cons (.var 5) (.cons (.var 8) .nil))))) (.cons (.ret (.cst (.bl false)))
    .nil) .nil)
    (.cons (.asg (.nm 9) (.tup .nil))
    (.cons (.for_ (.nm 10) (.val (.var 5)) (.cons (.asg (.nm 9) (.bin .add (.var 9) (.tup (.cons (.blt .tuple (.cons (.fl (.comp [16] (.nm 16) (.val (.var 10)) (.cst (.bl true)) (.call .l_under (.cons (.var 0) (.cons (.cst (.int 2)) .nil))))) .nil)) .nil))))
    .nil))
    (.cons (.asg (.nm 11) (.ife (.cmp .is (.var 8) (.cst .non)) (.var 9) (.var 8)))
    (.cons (.asg (.nm 12) (.ife (.var 4) (.fn .is_always_paper) (.fn .is_never_paper)))
    (.cons (.asg (.nm 13) (.fl (.comp [17] (.nm 17) (.rng (.cst (.int 3))) (.cst (.bl true)) (.call .l_bent (.cons (.var 0) (.cons (.var 11) .nil))))))
    (.cons (.for_ (.nm 14) (.val (.bin .add (.var 13) (.fl (.disp (.cons (.var 11) (.cons (.var 9) (.cons (.slt (.var 11) (.neg (.cst (.int 1)))) (.cons (.tup .nil) .nil)))))))) (.cons (.asg (.nm 15) (.callv (.var 12) (.cons (.var 1) (.cons (.var 2) (.cons (.var 3) (.cons (.var 14) .nil))))))
    (.cons (.ifs (.not (.call .l_truly (.cons (.var 15) (.cons (.call .l_is_paper (.cons (.var 5) (.cons (.var 14) .nil))) .nil)))) (.cons (.ret (.cst (.bl false)))
    .nil) .nil)
    .nil)))
    .nil)))))))))))))
    (.cons (.ret (.cst (.bl true)))
    .nil)), true, none⟩
def d_l_by_hand_k05 : PDef := ⟨0, 13,
    (.cons (.asg (.tp [(.nm 3), (.nm 4)]) (.tup (.cons (.tup (.cons (.cst (.int 10)) (.cons (.cst (.int 2)) (.cons (.cst (.int 1)) .nil)))) (.cons (.tup (.cons (.tup (.cons (.cst (.int 4)) (.cons (.cst (.int 6)) .nil))) .nil)) .nil))))
    (.cons (.asg (.nm 0) (.tup (.cons (.tup (.cons (.cst (.str "sum")) (.cons (.tup (.cons (.cst (.int 0)) (.cons (.cst (.int 1)) .nil))) (.cons (.cst (.int 6)) (.cons (.cst (.int 8)) .nil))))) (.cons (.tup (.cons (.cst (.str "wider")) (.cons (.tup (.cons (.cst (.int 1)) .nil)) (.cons (.tup (.cons (.cst (.int 0)) .nil)) .nil)))) (.cons (.tup (.cons (.cst (.str "wider")) (.cons (.tup (.cons (.cst (.int 0)) .nil)) (.cons (.tup (.cons (.cst (.int 1)) .nil)) .nil)))) (.cons (.tup (.cons (.cst (.str "sum")) (.cons (.tup (.cons (.cst (.int 2)) .nil)) (.cons (.cst (.int 3)) (.cons (.cst (.int 4)) .nil))))) .nil))))))
    (.cons (.asg (.tp [(.nm 5), (.nm 6)]) (.tup (.cons (.tup (.cons (.tup (.cons (.cst (.str "sum")) (.cons (.tup (.cons (.cst (.int 2)) .nil)) (.cons (.cst (.int 5)) (.cons (.cst (.int 6)) .nil))))) .nil)) (.cons (.tup (.cons (.cst (.int 0)) (.cons (.cst (.int 0)) (.cons (.cst (.int 0)) (.cons (.cst (.int 0)) (.cons (.cst (.int 0)) (.cons (.cst (.int 0)) .nil))))))) .nil))))
    (.cons (.par [7, 8, 9] (.cons (.bin .add (.var 6) (.tup (.cons (.cst (.int 1)) (.cons (.cst (.int 1)) (.cons (.cst (.int 0)) (.cons (.cst (.int 0)) (.cons (.cst (.int 0)) (.cons (.cst (.int 2)) (.cons (.cst (.int 0)) .nil))))))))) (.cons (.bin .add (.var 6) (.tup (.cons (.cst (.int 1)) (.cons (.cst (.int 0)) (.cons (.cst (.int 1)) (.cons (.cst (.int 0)) (.cons (.cst (.int 0)) (.cons (.cst (.int 0)) (.cons (.cst (.int 2)) .nil))))))))) (.cons (.bin .add (.var 6) (.tup (.cons (.cst (.int 0)) (.cons (.cst (.int 0)) (.cons (.cst (.int 0)) (.cons (.cst (.int 0)) (.cons (.cst (.int 1)) (.cons (.cst (.int 1)) (.cons (.cst (.int 0)) .nil))))))))) .nil))))
    (.cons (.asg (.nm 1) (.fl (.disp (.cons (.tup (.cons (.var 7) (.cons (.var 8) (.cons (.var 9) .nil)))) (.cons (.tup (.cons (.var 8) (.cons (.var 7) (.cons (.var 9) .nil)))) (.cons (.tup (.cons (.var 7) (.cons (.var 8) .nil))) (.cons (.tup (.cons (.var 7) (.cons (.var 7) (.cons (.var 9) .nil)))) (.cons (.tup (.cons (.var 7) (.cons (.var 8) (.cons (.bin .add (.var 6) (.tup (.cons (.cst (.int 0)) (.cons (.cst (.int 0)) (.cons (.cst (.int 0)) (.cons (.cst (.int 0)) (.cons (.cst (.int 2)) (.cons (.cst (.int 1)) (.cons (.cst (.int 1)) .nil))))))))) .nil)))) .nil))))))))
    (.cons (.ifs (.cmp .ne (.fl (.comp [12] (.nm 12) (.val (.var 1)) (.cst (.bl true)) (.call .is_always_paper (.cons (.var 3) (.cons (.var 0) (.cons (.var 4) (.cons (.var 12) .nil))))))) (.fl (.disp (.cons (.cst (.bl true)) (.cons (.cst (.bl false)) (.cons (.cst (.bl false)) (.cons (.cst (.bl false)) (.cons (.cst (.bl true)) .nil)))))))) (.cons (.ret (.cst (.bl false)))
    .nil) .nil)
    (.cons (.ifs (.or (.call .is_always_paper (.cons (.var 3) (.cons (.slt (.var 0) (.cst (.int 3))) (.cons (.var 4) (.cons (.idx (.var 1) (.cst (.int 0))) .nil))))) (.cmp .isnot (.call .always_paper (.cons (.var 3) (.cons (.slt (.var 0) (.cst (.int 3))) (.cons (.var 4) .nil)))) (.cst .non))) (.cons (.ret (.cst (.bl false)))
    .nil) .nil)
    (.cons (.par [10, 11] (.cons (.bin .add (.slt (.var 6) (.cst (.int 5))) (.tup (.cons (.cst (.int 1)) (.cons (.cst (.int 0)) (.cons (.cst (.int 0)) (.cons (.cst (.int 0)) (.cons (.cst (.int 0)) (.cons (.cst (.int 1)) .nil)))))))) (.cons (.bin .add (.slt (.var 6) (.cst (.int 5))) (.tup (.cons (.cst (.int 1)) (.cons (.cst (.int 0)) (.cons (.cst (.int 0)) (.cons (.cst (.int 0)) (.cons (.cst (.int 1)) (.cons (.cst (.int 0)) .nil)))))))) .nil)))
    (.cons (.ifs (.or (.not (.call .is_never_paper (.cons (.var 3) (.cons (.var 5) (.cons (.var 4) (.cons (.bin .mul (.tup (.cons (.var 10) (.cons (.var 11) .nil))) (.cst (.int 3))) .nil)))))) (.call .is_never_paper (.cons (.var 3) (.cons (.var 5) (.cons (.var 4) (.cons (.bin .mul (.tup (.cons (.var 11) (.cons (.var 10) .nil))) (.cst (.int 3))) .nil)))))) (.cons (.ret (.cst (.bl false)))
    .nil) .nil)
    (.cons (.asg (.nm 2) (.bin .add (.var 5) (.tup (.cons (.tup (.cons (.cst (.str "sum")) (.cons (.tup (.cons (.cst (.int 2)) .nil)) (.cons (.cst (.int 0)) (.cons (.cst (.int 4)) .nil))))) .nil))))
    (.cons (.ret (.and (.cmp .isnot (.call .always_paper (.cons (.var 3) (.cons (.var 2) (.cons (.var 4) .nil)))) (.cst .non)) (.cmp .isnot (.call .never_paper (.cons (.var 3) (.cons (.var 2) (.cons (.var 4) .nil)))) (.cst .non))))
    .nil))))))))))), true, none⟩
def d_law_k05 : PDef := ⟨1, 7,
    (.cons (.for_ (.nm 1) (.rng (.blt .max2 (.cons (.cst (.int 5)) (.cons (.blt .min2 (.cons (.cst (.int 11)) (.cons (.blt .len (.cons (.var 0) .nil)) .nil))) .nil)))) (.cons (.asg (.nm 2) (.call .l_vat (.cons (.var 0) (.cons (.var 1) .nil))))
    (.cons (.for_ (.nm 3) (.rng (.cst (.int 2))) (.cons (.asg (.nm 5) (.call .l_wardrobe (.cons (.var 2) (.cons (.cst (.int 3)) .nil))))
    (.cons (.ifs (.not (.call .l_told_right_k05 (.cons (.var 2) (.cons (.var 5) (.cons (.call .l_facts (.cons (.var 2) (.cons (.var 5) (.cons (.cst (.int 3)) .nil)))) (.cons (.call .l_shelves (.cons (.var 2) (.cons (.var 5) .nil))) .nil)))))) (.cons (.ret (.cst (.bl false)))
    .nil) .nil)
    .nil)))
    (.cons (.asg (.nm 4) (.fl (.comp [6] (.nm 6) (.val (.tup (.cons (.fn .always_paper) (.cons (.fn .never_paper) .nil)))) (.cst (.bl true)) (.err (.callv (.var 6) (.cons (.var 5) (.cons (.tup .nil) (.cons (.cst .non) .nil))))))))
    (.cons (.asg (.nm 4) (.bin .add (.var 4) (.fl (.comp [6] (.nm 6) (.val (.tup (.cons (.fn .is_always_paper) (.cons (.fn .is_never_paper) .nil)))) (.cst (.bl true)) (.err (.callv (.var 6) (.cons (.var 5) (.cons (.tup .nil) (.cons (.cst .non) (.cons (.cst .non) .nil))))))))))
    (.cons (.ifs (.cmp .ne (.var 4) (.bin .mul (.fl (.disp (.cons (.cst (.str "shelves value")) .nil))) (.cst (.int 4)))) (.cons (.ret (.cst (.bl false)))
    .nil) .nil)
    .nil))))))
    (.cons (.ret (.call .l_by_hand_k05 .nil))
    .nil)), true, none⟩
def d_need_standing : PDef := ⟨2, 2,
    (.cons (.ifs (.or (.not (.isi (.var 1) .tuple)) (.cmp .ne (.blt .len (.cons (.var 1) .nil)) (.cst (.int 2)))) (.cons (.raise .InvalidStanding .nil)
    .nil) .nil)
    (.cons (.ifs (.or (.not (.call .is_whole (.cons (.idx (.var 1) (.cst (.int 0))) (.cons (.cst (.int 0)) (.cons (.idx (.var 0) (.cst (.int 1))) .nil))))) (.not (.call .is_whole (.cons (.idx (.var 1) (.cst (.int 1))) (.cons (.cst (.int 0)) (.cons (.idx (.var 0) (.cst (.int 2))) .nil)))))) (.cons (.raise .InvalidStanding .nil)
    .nil) .nil)
    .nil)), true, none⟩
def d_is_move : PDef := ⟨2, 2,
    (.cons (.ifs (.or (.not (.isi (.var 1) .tuple)) (.or (.cmp .ne (.blt .len (.cons (.var 1) .nil)) (.cst (.int 3))) (.not (.isi (.idx (.var 1) (.cst (.int 0))) .str)))) (.cons (.ret (.cst (.bl false)))
    .nil) .nil)
    (.cons (.ifs (.or (.cmp .notin (.idx (.var 1) (.cst (.int 0))) (.tup (.cons (.cst (.str "push")) (.cons (.cst (.str "drive")) .nil)))) (.or (.not (.isi (.idx (.var 1) (.cst (.int 2))) .str)) (.cmp .notin (.idx (.var 1) (.cst (.int 2))) (.tup (.cons (.cst (.str "left")) (.cons (.cst (.str "right")) .nil)))))) (.cons (.ret (.cst (.bl false)))
    .nil) .nil)
    (.cons (.ret (.call .is_whole (.cons (.idx (.var 1) (.cst (.int 1))) (.cons (.cst (.int 0)) (.cons (.bin .sub (.bin .add (.idx (.var 0) (.cst (.int 1))) (.idx (.var 0) (.cst (.int 2)))) (.cst (.int 1))) .nil)))))
    .nil))), true, none⟩
def d_are_moves : PDef := ⟨2, 3,
    (.cons (.ifs (.or (.not (.isi (.var 1) .tuple)) (.cmp .gt (.blt .len (.cons (.var 1) .nil)) (.cst (.int 12)))) (.cons (.ret (.cst (.bl false)))
    .nil) .nil)
    (.cons (.ret (.cmp .eq (.fl (.comp [2] (.nm 2) (.val (.var 1)) (.not (.call .is_move (.cons (.var 0) (.cons (.var 2) .nil)))) (.var 2))) (.fl (.disp .nil))))
    .nil)), true, none⟩
def d_moved : PDef := ⟨3, 9,
    (.cons (.asg (.tp [(.nm 4), (.nm 5), (.nm 6)]) (.var 2))
    (.cons (.asg (.nm 3) (.blt .int (.cons (.cmp .ge (.var 5) (.idx (.var 0) (.cst (.int 1)))) .nil)))
    (.cons (.par [7, 8] (.cons (.bin .sub (.var 5) (.idx (.call .doors_of (.cons (.var 0) (.cons (.var 3) .nil))) (.cst (.int 0)))) (.cons (.idx (.var 1) (.var 3)) .nil)))
    (.cons (.ifs (.and (.cmp .eq (.var 6) (.cst (.str "left"))) (.or (.cmp .eq (.var 7) (.var 8)) (.and (.cmp .gt (.var 7) (.var 8)) (.cmp .eq (.var 4) (.cst (.str "drive")))))) (.cons (.asg (.nm 8) (.bin .add (.var 7) (.cst (.int 1))))
    .nil) (.cons (.ifs (.and (.cmp .eq (.var 6) (.cst (.str "right"))) (.or (.cmp .eq (.var 7) (.bin .sub (.var 8) (.cst (.int 1)))) (.and (.cmp .lt (.var 7) (.var 8)) (.cmp .eq (.var 4) (.cst (.str "drive")))))) (.cons (.asg (.nm 8) (.var 7))
    .nil) .nil)
    .nil))
    (.cons (.ret (.ife (.cmp .eq (.var 3) (.cst (.int 0))) (.tup (.cons (.var 8) (.cons (.idx (.var 1) (.cst (.int 1))) .nil))) (.tup (.cons (.idx (.var 1) (.cst (.int 0))) (.cons (.var 8) .nil)))))
    .nil))))), true, none⟩
def d_all_moved : PDef := ⟨3, 4,
    (.cons (.for_ (.nm 3) (.val (.var 2)) (.cons (.asg (.nm 1) (.call .moved (.cons (.var 0) (.cons (.var 1) (.cons (.var 3) .nil)))))
    .nil))
    (.cons (.ret (.var 1))
    .nil)), true, none⟩
def d_after : PDef := ⟨3, 3,
    (.cons (.ex (.call .need_wardrobe (.cons (.var 0) .nil)))
    (.cons (.ex (.call .need_standing (.cons (.var 0) (.cons (.var 1) .nil))))
    (.cons (.ifs (.not (.call .are_moves (.cons (.var 0) (.cons (.var 2) .nil)))) (.cons (.raise .InvalidMoves .nil)
    .nil) .nil)
    (.cons (.ret (.call .all_moved (.cons (.var 0) (.cons (.var 1) (.cons (.var 2) .nil)))))
    .nil)))), true, none⟩
def d_l_moved : PDef := ⟨3, 12,
    (.cons (.asg (.tp [(.nm 7), (.nm 8), (.nm 9)]) (.var 2))
    (.cons (.asg (.nm 3) (.idx (.fl (.comp [11] (.nm 11) (.val (.call .l_rails (.cons (.var 0) .nil))) (.cmp .inn (.var 8) (.var 11)) (.var 11))) (.cst (.int 0))))
    (.cons (.asg (.nm 4) (.fl (.comp [10] (.nm 10) (.val (.var 3)) (.and (.cmp .ne (.var 10) (.var 8)) (.cmp .eq (.cmp .lt (.var 10) (.var 8)) (.cmp .eq (.var 9) (.cst (.str "left"))))) (.var 10))))
    (.cons (.asg (.nm 5) (.fl (.comp [10] (.nm 10) (.val (.var 4)) (.cmp .ne (.idx (.var 1) (.var 10)) (.var 9)) (.var 10))))
    (.cons (.asg (.nm 6) (.nl (.ofl (.var 1))))
    (.cons (.ifs (.or (.cmp .eq (.var 7) (.cst (.str "drive"))) (.cmp .eq (.var 5) (.fl (.disp .nil)))) (.cons (.for_ (.nm 10) (.val (.bin .add (.var 5) (.fl (.disp (.cons (.var 8) .nil))))) (.cons (.setI (.var 6) (.var 10) (.var 9))
    .nil))
    .nil) .nil)
    (.cons (.ret (.var 6))
    .nil))))))), true, none⟩
def d_l_is_move : PDef := ⟨2, 2,
    (.cons (.ifs (.or (.not (.isi (.var 1) .tuple)) (.cmp .ne (.blt .len (.cons (.var 1) .nil)) (.cst (.int 3)))) (.cons (.ret (.cst (.bl false)))
    .nil) .nil)
    (.cons (.ifs (.or (.not (.isi (.idx (.var 1) (.cst (.int 0))) .str)) (.not (.isi (.idx (.var 1) (.cst (.int 2))) .str))) (.cons (.ret (.cst (.bl false)))
    .nil) .nil)
    (.cons (.ifs (.or (.cmp .notin (.idx (.var 1) (.cst (.int 0))) (.fl (.disp (.cons (.cst (.str "push")) (.cons (.cst (.str "drive")) .nil))))) (.cmp .notin (.idx (.var 1) (.cst (.int 2))) (.fl (.disp (.cons (.cst (.str "left")) (.cons (.cst (.str "right")) .nil)))))) (.cons (.ret (.cst (.bl false)))
    .nil) .nil)
    (.cons (.ret (.call .l_is_whole (.cons (.idx (.var 1) (.cst (.int 1))) (.cons (.cst (.int 0)) (.cons (.bin .sub (.bin .add (.idx (.var 0) (.cst (.int 1))) (.idx (.var 0) (.cst (.int 2)))) (.cst (.int 1))) .nil)))))
    .nil)))), true, none⟩
def d_l_move : PDef := ⟨2, 3,
    (.cons (.asg (.nm 2) (.call .l_some (.cons (.var 0) (.cons (.fl (.disp (.cons (.cst (.str "left")) (.cons (.cst (.str "right")) .nil)))) .nil))))
    (.cons (.ret (.tup (.cons (.call .l_some (.cons (.var 0) (.cons (.fl (.disp (.cons (.cst (.str "push")) (.cons (.cst (.str "drive")) .nil)))) .nil))) (.cons (.call .l_under (.cons (.var 0) (.cons (.bin .add (.idx (.var 1) (.cst (.int 1))) (.idx (.var 1) (.cst (.int 2)))) .nil))) (.cons (.var 2) .nil)))))
    .nil)), true, none⟩
def d_l_right : PDef := ⟨3, 9,
    (.cons (.asg (.nm 3) (.fl (.disp .nil)))
    (.cons (.for_ (.tp [(.nm 6), (.nm 7)]) (.zip (.call .l_rails (.cons (.var 0) .nil)) (.var 1)) (.cons (.asg (.nm 3) (.bin .add (.bin .add (.var 3) (.bin .mul (.fl (.disp (.cons (.cst (.str "left")) .nil))) (.var 7))) (.bin .mul (.fl (.disp (.cons (.cst (.str "right")) .nil))) (.bin .sub (.blt .len (.cons (.var 6) .nil)) (.var 7)))))
    .nil))
    (.cons (.for_ (.nm 4) (.val (.var 2)) (.cons (.asg (.nm 3) (.call .l_moved (.cons (.var 0) (.cons (.var 3) (.cons (.var 4) .nil)))))
    .nil))
    (.cons (.asg (.nm 5) (.tup .nil))
    (.cons (.for_ (.nm 6) (.val (.call .l_rails (.cons (.var 0) .nil))) (.cons (.asg (.nm 5) (.bin .add (.var 5) (.tup (.cons (.blt .len (.cons (.fl (.comp [8] (.nm 8) (.val (.var 6)) (.cmp .eq (.idx (.var 3) (.var 8)) (.cst (.str "left"))) (.var 8))) .nil)) .nil))))
    .nil))
    (.cons (.ret (.cmp .eq (.call .after (.cons (.var 0) (.cons (.var 1) (.cons (.var 2) .nil)))) (.var 5)))
    .nil)))))), true, none⟩
def d_law_k06 : PDef := ⟨1, 14,
    (.cons (.for_ (.nm 1) (.rng (.blt .max2 (.cons (.cst (.int 6)) (.cons (.blt .min2 (.cons (.cst (.int 14)) (.cons (.blt .len (.cons (.var 0) .nil)) .nil))) .nil)))) (.cons (.asg (.nm 3) (.call .l_vat (.cons (.var 0) (.cons (.var 1) .nil))))
    (.cons (.asg (.nm 4) (.call .l_wardrobe (.cons (.var 3) (.cons (.cst (.int 6)) .nil))))
    (.cons (.for_ (.nm 5) (.rng (.cst (.int 5))) (.cons (.asg (.nm 9) (.tup (.cons (.call .l_under (.cons (.var 3) (.cons (.bin .add (.idx (.var 4) (.cst (.int 1))) (.cst (.int 1))) .nil))) (.cons (.call .l_under (.cons (.var 3) (.cons (.bin .add (.idx (.var 4) (.cst (.int 2))) (.cst (.int 1))) .nil))) .nil))))
    (.cons (.asg (.nm 10) (.blt .tuple (.cons (.fl (.comp [13] (.nm 13) (.rng (.call .l_under (.cons (.var 3) (.cons (.cst (.int 13)) .nil)))) (.cst (.bl true)) (.call .l_move (.cons (.var 3) (.cons (.var 4) .nil))))) .nil)))
    (.cons (.ifs (.not (.call .l_right (.cons (.var 4) (.cons (.var 9) (.cons (.var 10) .nil))))) (.cons (.ret (.cst (.bl false)))
    .nil) .nil)
    (.cons (.asg (.nm 11) (.call .l_bent (.cons (.var 3) (.cons (.var 10) .nil))))
    (.cons (.asg (.nm 12) (.and (.isi (.var 11) .tuple) (.cmp .lt (.blt .len (.cons (.var 11) .nil)) (.cst (.int 13)))))
    (.cons (.ifs (.var 12) (.cons (.asg (.nm 12) (.cmp .eq (.fl (.comp [13] (.nm 13) (.val (.var 11)) (.not (.call .l_is_move (.cons (.var 4) (.cons (.var 13) .nil)))) (.var 13))) (.fl (.disp .nil))))
    .nil) .nil)
    (.cons (.ifs (.cmp .ne (.cmp .eq (.err (.call .after (.cons (.var 4) (.cons (.var 9) (.cons (.var 11) .nil))))) (.cst (.str ""))) (.var 12)) (.cons (.ret (.cst (.bl false)))
    .nil) .nil)
    .nil))))))))
    (.cons (.for_ (.nm 6) (.val (.fl (.disp (.cons (.cst .non) (.cons (.tup (.cons (.cst (.int 0)) .nil)) (.cons (.tup (.cons (.cst (.int 0)) (.cons (.cst (.int 9)) .nil))) (.cons (.tup (.cons (.neg (.cst (.int 1))) (.cons (.cst (.int 0)) .nil))) (.cons (.fl (.disp (.cons (.cst (.int 0)) (.cons (.cst (.int 0)) .nil)))) (.cons (.tup (.cons (.cst (.bl true)) (.cons (.cst (.int 0)) .nil))) .nil))))))))) (.cons (.ifs (.cmp .ne (.err (.call .after (.cons (.var 4) (.cons (.var 6) (.cons (.cst .non) .nil))))) (.cst (.str "standing value"))) (.cons (.ret (.cst (.bl false)))
    .nil) .nil)
    .nil))
    (.cons (.ifs (.cmp .ne (.err (.call .after (.cons (.var 4) (.cons (.var 9) (.cons (.bin .mul (.tup (.cons (.tup (.cons (.cst (.str "push")) (.cons (.cst (.int 0)) (.cons (.cst (.str "left")) .nil)))) .nil)) (.cst (.int 13))) .nil))))) (.cst (.str "moves value"))) (.cons (.ret (.cst (.bl false)))
    .nil) .nil)
    .nil))))))
    (.cons (.asg (.tp [(.nm 7), (.nm 8)]) (.tup (.cons (.tup (.cons (.cst (.int 9)) (.cons (.cst (.int 3)) (.cons (.cst (.int 1)) .nil)))) (.cons (.tup (.cons (.cst (.str "push")) (.cons (.cst (.int 1)) (.cons (.cst (.str "right")) .nil)))) .nil))))
    (.cons (.asg (.nm 2) (.fl (.disp (.cons (.call .after (.cons (.var 7) (.cons (.tup (.cons (.cst (.int 3)) (.cons (.cst (.int 0)) .nil))) (.cons (.tup (.cons (.var 8) .nil)) .nil)))) (.cons (.call .after (.cons (.var 7) (.cons (.tup (.cons (.cst (.int 2)) (.cons (.cst (.int 0)) .nil))) (.cons (.tup (.cons (.var 8) .nil)) .nil)))) (.cons (.call .after (.cons (.var 7) (.cons (.tup (.cons (.cst (.int 3)) (.cons (.cst (.int 0)) .nil))) (.cons (.tup (.cons (.tup (.cons (.cst (.str "drive")) (.cons (.cst (.int 1)) (.cons (.cst (.str "right")) .nil)))) .nil)) .nil)))) (.cons (.call .after (.cons (.var 7) (.cons (.tup (.cons (.cst (.int 0)) (.cons (.cst (.int 1)) .nil))) (.cons (.tup (.cons (.tup (.cons (.cst (.str "push")) (.cons (.cst (.int 2)) (.cons (.cst (.str "left")) .nil)))) .nil)) .nil)))) .nil)))))))
    (.cons (.ifs (.or (.cmp .ne (.var 2) (.fl (.disp (.cons (.tup (.cons (.cst (.int 3)) (.cons (.cst (.int 0)) .nil))) (.cons (.tup (.cons (.cst (.int 1)) (.cons (.cst (.int 0)) .nil))) (.cons (.tup (.cons (.cst (.int 1)) (.cons (.cst (.int 0)) .nil))) (.cons (.tup (.cons (.cst (.int 0)) (.cons (.cst (.int 1)) .nil))) .nil))))))) (.cmp .ne (.call .after (.cons (.var 7) (.cons (.tup (.cons (.cst (.int 0)) (.cons (.cst (.int 1)) .nil))) (.cons (.tup (.cons (.tup (.cons (.cst (.str "drive")) (.cons (.cst (.int 2)) (.cons (.cst (.str "left")) .nil)))) (.cons (.tup (.cons (.cst (.str "push")) (.cons (.cst (.int 3)) (.cons (.cst (.str "right")) .nil)))) .nil))) .nil)))) (.tup (.cons (.cst (.int 3)) (.cons (.cst (.int 0)) .nil))))) (.cons (.ret (.cst (.bl false)))
    .nil) .nil)
    (.cons (.ret (.cmp .eq (.call .after (.cons (.var 7) (.cons (.tup (.cons (.cst (.int 2)) (.cons (.cst (.int 1)) .nil))) (.cons (.tup (.cons (.tup (.cons (.cst (.str "drive")) (.cons (.cst (.int 0)) (.cons (.cst (.str "left")) .nil)))) (.cons (.tup (.cons (.cst (.str "drive")) (.cons (.cst (.int 2)) (.cons (.cst (.str "right")) .nil)))) (.cons (.tup (.cons (.cst (.str "push")) (.cons (.cst (.int 3)) (.cons (.cst (.str "left")) .nil)))) .nil)))) .nil)))) (.tup (.cons (.cst (.int 2)) (.cons (.cst (.int 1)) .nil)))))
    .nil))))), true, none⟩
def d_contrary : PDef := ⟨1, 2,
    (.cons (.ret (.bin .add (.blt .tuple (.cons (.fl (.comp [1] (.nm 1) (.val (.slt (.var 0) (.neg (.cst (.int 1))))) (.cst (.bl true)) (.neg (.var 1)))) .nil)) (.tup (.cons (.not (.idx (.var 0) (.neg (.cst (.int 1))))) .nil))))
    .nil), true, none⟩
def d_free_word : PDef := ⟨4, 8,
    (.cons (.asg (.tp [(.nm 5), (.nm 6)]) (.tup (.cons (.call .all_rows (.cons (.var 0) (.cons (.var 1) .nil))) (.cons (.fl (.disp .nil)) .nil))))
    (.cons (.for_ (.nm 4) (.val (.tup (.cons (.cst (.int 0)) (.cons (.cst (.int 1)) .nil)))) (.cons (.asg (.nm 6) (.bin .add (.var 6) (.call .rows_of_way (.cons (.var 0) (.cons (.tup (.cons (.var 3) .nil)) (.cons (.var 4) (.cons (.tup (.cons (.idx (.var 2) (.var 4)) .nil)) .nil)))))))
    .nil))
    (.cons (.ifs (.cmp .eq (.fl (.comp [7] (.nm 7) (.val (.var 6)) (.cmp .isnot (.idx (.call .judged (.cons (.bin .add (.var 5) (.fl (.disp (.cons (.call .contrary (.cons (.var 7) .nil)) .nil)))) .nil)) (.cst (.int 0))) (.cst .non)) (.var 7))) (.fl (.disp .nil))) (.cons (.ret (.cst (.str "always")))
    .nil) .nil)
    (.cons (.ret (.ife (.cmp .is (.idx (.call .judged (.cons (.bin .add (.var 5) (.var 6)) .nil)) (.cst (.int 0))) (.cst .non)) (.cst (.str "never")) (.cst (.str "sometimes"))))
    .nil)))), true, none⟩
def d_need_shelf : PDef := ⟨2, 2,
    (.cons (.ifs (.not (.call .is_shelf (.cons (.var 0) (.cons (.var 1) .nil)))) (.cons (.raise .InvalidShelves .nil)
    .nil) .nil)
    .nil), true, none⟩
def d_free : PDef := ⟨4, 4,
    (.cons (.ex (.call .need_facts (.cons (.var 0) (.cons (.var 1) .nil))))
    (.cons (.ex (.call .need_standing (.cons (.var 0) (.cons (.var 2) .nil))))
    (.cons (.ex (.call .need_shelf (.cons (.var 0) (.cons (.var 3) .nil))))
    (.cons (.ex (.call .need_possible (.cons (.var 0) (.cons (.var 1) .nil))))
    (.cons (.ret (.call .free_word (.cons (.var 0) (.cons (.var 1) (.cons (.var 2) (.cons (.var 3) .nil))))))
    .nil))))), true, none⟩
def d_gap_rows : PDef := ⟨3, 8,
    (.cons (.asg (.nm 3) (.nl (.disp .nil)))
    (.cons (.for_ (.nm 4) (.val (.tup (.cons (.cst (.int 0)) (.cons (.cst (.int 1)) .nil)))) (.cons (.asg (.nm 5) (.slt (.call .doors_of (.cons (.var 0) (.cons (.var 4) .nil))) (.idx (.var 1) (.var 4))))
    (.cons (.for_ (.nm 6) (.val (.tup (.cons (.cst (.int 0)) (.cons (.cst (.int 1)) .nil)))) (.cons (.asg (.nm 7) (.slf (.call .doors_of (.cons (.var 0) (.cons (.var 6) .nil))) (.idx (.var 1) (.var 6))))
    (.cons (.app (.var 3) (.call .row_of (.cons (.var 0) (.cons (.bin .sub (.idx (.var 0) (.cst (.int 0))) (.var 2)) (.cons (.tup .nil) (.cons (.bin .add (.var 5) (.var 7)) (.cons (.cst (.bl false)) .nil)))))))
    .nil)))
    .nil)))
    (.cons (.ret (.var 3))
    .nil))), true, none⟩
def d_greatest : PDef := ⟨2, 5,
    (.cons (.par [2, 3] (.cons (.cst (.int 0)) (.cons (.bin .add (.idx (.var 0) (.cst (.int 0))) (.cst (.int 1))) .nil)))
    (.cons (.whl (.cmp .gt (.bin .sub (.var 3) (.var 2)) (.cst (.int 1))) (.cons (.asg (.nm 4) (.bin .fdiv (.bin .add (.var 2) (.var 3)) (.cst (.int 2))))
    (.cons (.asg (.tp [(.nm 2), (.nm 3)]) (.ife (.callv (.var 1) (.cons (.var 4) .nil)) (.tup (.cons (.var 4) (.cons (.var 3) .nil))) (.tup (.cons (.var 2) (.cons (.var 4) .nil)))))
    .nil)))
    (.cons (.ret (.var 2))
    .nil))), true, none⟩
def d_is_sure : PDef := ⟨2, 3,
    (.cons (.ret (.cmp .eq (.fl (.comp [2] (.nm 2) (.val (.var 1)) (.cmp .isnot (.idx (.call .judged (.cons (.bin .add (.var 0) (.fl (.disp (.cons (.call .contrary (.cons (.var 2) .nil)) .nil)))) .nil)) (.cst (.int 0))) (.cst .non)) (.var 2))) (.fl (.disp .nil))))
    .nil), true, none⟩
def d_sure_gap : PDef := ⟨3, 4,
    (.cons (.ex (.call .need_facts (.cons (.var 0) (.cons (.var 1) .nil))))
    (.cons (.ex (.call .need_standing (.cons (.var 0) (.cons (.var 2) .nil))))
    (.cons (.ex (.call .need_possible (.cons (.var 0) (.cons (.var 1) .nil))))
    (.cons (.asg (.nm 3) (.call .all_rows (.cons (.var 0) (.cons (.var 1) .nil))))
    (.cons .bad
    .nil))))), true, none⟩
def d_hoped_gap : PDef := ⟨3, 4,
    (.cons (.ex (.call .need_facts (.cons (.var 0) (.cons (.var 1) .nil))))
    (.cons (.ex (.call .need_standing (.cons (.var 0) (.cons (.var 2) .nil))))
    (.cons (.ex (.call .need_possible (.cons (.var 0) (.cons (.var 1) .nil))))
    (.cons (.asg (.nm 3) (.call .all_rows (.cons (.var 0) (.cons (.var 1) .nil))))
    (.cons .bad
    .nil))))), true, none⟩
def d_l_contrary : PDef := ⟨1, 2,
    (.cons (.ret (.bin .add (.blt .tuple (.cons (.fl (.comp [1] (.nm 1) (.val (.slt (.var 0) (.neg (.cst (.int 1))))) (.cst (.bl true)) (.neg (.var 1)))) .nil)) (.tup (.cons (.not (.idx (.var 0) (.neg (.cst (.int 1))))) .nil))))
    .nil), true, none⟩
def d_l_free : PDef := ⟨4, 8,
    (.cons (.asg (.tp [(.nm 5), (.nm 6)]) (.tup (.cons (.call .l_lines (.cons (.var 0) (.cons (.var 1) .nil))) (.cons (.fl (.disp .nil)) .nil))))
    (.cons (.for_ (.nm 4) (.val (.tup (.cons (.cst (.int 0)) (.cons (.cst (.int 1)) .nil)))) (.cons (.asg (.nm 6) (.bin .add (.var 6) (.call .l_way_lines (.cons (.var 0) (.cons (.tup (.cons (.var 3) .nil)) (.cons (.var 4) (.cons (.tup (.cons (.idx (.var 2) (.var 4)) .nil)) .nil)))))))
    .nil))
    (.cons (.ifs (.cmp .eq (.fl (.comp [7] (.nm 7) (.val (.var 6)) (.call .l_can (.cons (.bin .add (.var 5) (.fl (.disp (.cons (.call .l_contrary (.cons (.var 7) .nil)) .nil)))) .nil)) (.var 7))) (.fl (.disp .nil))) (.cons (.ret (.cst (.str "always")))
    .nil) .nil)
    (.cons (.ret (.ife (.call .l_can (.cons (.bin .add (.var 5) (.var 6)) .nil)) (.cst (.str "sometimes")) (.cst (.str "never"))))
    .nil)))), true, none⟩
def d_l_gaps : PDef := ⟨3, 8,
    (.cons (.par [4, 5] (.cons (.nl (.disp .nil)) (.cons (.call .l_rails (.cons (.var 0) .nil)) .nil)))
    (.cons (.for_ (.nm 3) (.val (.tup (.cons (.cst (.int 0)) (.cons (.cst (.int 1)) .nil)))) (.cons (.for_ (.nm 6) (.val (.tup (.cons (.cst (.int 0)) (.cons (.cst (.int 1)) .nil)))) (.cons (.asg (.nm 7) (.slt (.idx (.var 5) (.var 3)) (.idx (.var 1) (.var 3))))
    (.cons (.asg (.nm 7) (.bin .add (.var 7) (.slf (.idx (.var 5) (.var 6)) (.idx (.var 1) (.var 6)))))
    (.cons (.app (.var 4) (.call .l_line (.cons (.var 0) (.cons (.bin .sub (.idx (.var 0) (.cst (.int 0))) (.var 2)) (.cons (.fl (.disp .nil)) (.cons (.var 7) (.cons (.cst (.bl false)) .nil)))))))
    .nil))))
    .nil))
    (.cons (.ret (.var 4))
    .nil))), true, none⟩
def d_l_sure : PDef := ⟨4, 6,
    (.cons (.asg (.nm 4) (.call .l_lines (.cons (.var 0) (.cons (.var 1) .nil))))
    (.cons (.ret (.cmp .eq (.fl (.comp [5] (.nm 5) (.val (.call .l_gaps (.cons (.var 0) (.cons (.var 2) (.cons (.var 3) .nil))))) (.call .l_can (.cons (.bin .add (.var 4) (.fl (.disp (.cons (.call .l_contrary (.cons (.var 5) .nil)) .nil)))) .nil)) (.var 5))) (.fl (.disp .nil))))
    .nil)), true, none⟩
def d_l_hoped : PDef := ⟨4, 4,
    (.cons (.ret (.call .l_can (.cons (.bin .add (.call .l_lines (.cons (.var 0) (.cons (.var 1) .nil))) (.call .l_gaps (.cons (.var 0) (.cons (.var 2) (.cons (.var 3) .nil))))) .nil)))
    .nil), true, none⟩
def d_l_gap_right : PDef := ⟨5, 5,
    (.cons (.ifs (.or (.not (.call .l_is_whole (.cons (.var 4) (.cons (.cst (.int 0)) (.cons (.idx (.var 1) (.cst (.int 0))) .nil))))) (.callv (.var 0) (.cons (.var 1) (.cons (.var 2) (.cons (.var 3) (.cons (.bin .add (.var 4) (.cst (.int 1))) .nil)))))) (.cons (.ret (.cst (.bl false)))
    .nil) .nil)
    (.cons (.ret (.or (.cmp .eq (.var 4) (.cst (.int 0))) (.callv (.var 0) (.cons (.var 1) (.cons (.var 2) (.cons (.var 3) (.cons (.var 4) .nil)))))))
    .nil)), true, none⟩
def d_l_by_hand_k07 : PDef := ⟨0, 5,
    (.cons (.asg (.tp [(.nm 3), (.nm 4)]) (.tup (.cons (.tup (.cons (.cst (.int 10)) (.cons (.cst (.int 2)) (.cons (.cst (.int 1)) .nil)))) (.cons (.tup (.cons (.cst (.int 4)) (.cons (.cst (.int 6)) .nil))) .nil))))
    (.cons (.asg (.nm 0) (.tup (.cons (.tup (.cons (.cst (.str "sum")) (.cons (.tup (.cons (.cst (.int 0)) (.cons (.cst (.int 1)) .nil))) (.cons (.cst (.int 6)) (.cons (.cst (.int 8)) .nil))))) (.cons (.tup (.cons (.cst (.str "wider")) (.cons (.tup (.cons (.cst (.int 1)) .nil)) (.cons (.tup (.cons (.cst (.int 0)) .nil)) .nil)))) (.cons (.tup (.cons (.cst (.str "wider")) (.cons (.tup (.cons (.cst (.int 0)) .nil)) (.cons (.tup (.cons (.cst (.int 1)) .nil)) .nil)))) .nil)))))
    (.cons (.asg (.nm 1) (.bin .add (.var 0) (.tup (.cons (.tup (.cons (.cst (.str "sum")) (.cons (.tup (.cons (.cst (.int 2)) .nil)) (.cons (.cst (.int 3)) (.cons (.cst (.int 4)) .nil))))) .nil))))
    (.cons (.asg (.nm 2) (.fl (.disp (.cons (.call .free (.cons (.var 3) (.cons (.var 1) (.cons (.tup (.cons (.cst (.int 1)) (.cons (.cst (.int 0)) .nil))) (.cons (.var 4) .nil))))) (.cons (.call .free (.cons (.var 3) (.cons (.var 1) (.cons (.tup (.cons (.cst (.int 2)) (.cons (.cst (.int 1)) .nil))) (.cons (.var 4) .nil))))) (.cons (.call .free (.cons (.var 3) (.cons (.var 0) (.cons (.tup (.cons (.cst (.int 1)) (.cons (.cst (.int 1)) .nil))) (.cons (.var 4) .nil))))) (.cons (.call .free (.cons (.var 3) (.cons (.var 1) (.cons (.tup (.cons (.cst (.int 0)) (.cons (.cst (.int 0)) .nil))) (.cons (.tup (.cons (.cst (.int 0)) (.cons (.cst (.int 2)) .nil))) .nil))))) .nil)))))))
    (.cons (.ifs (.cmp .ne (.var 2) (.fl (.disp (.cons (.cst (.str "always")) (.cons (.cst (.str "never")) (.cons (.cst (.str "sometimes")) (.cons (.cst (.str "always")) .nil))))))) (.cons (.ret (.cst (.bl false)))
    .nil) .nil)
    (.cons (.asg (.nm 2) (.fl (.disp (.cons (.call .sure_gap (.cons (.var 3) (.cons (.var 1) (.cons (.tup (.cons (.cst (.int 1)) (.cons (.cst (.int 0)) .nil))) .nil)))) (.cons (.call .hoped_gap (.cons (.var 3) (.cons (.var 1) (.cons (.tup (.cons (.cst (.int 1)) (.cons (.cst (.int 0)) .nil))) .nil)))) (.cons (.call .sure_gap (.cons (.var 3) (.cons (.var 0) (.cons (.tup (.cons (.cst (.int 1)) (.cons (.cst (.int 0)) .nil))) .nil)))) (.cons (.call .hoped_gap (.cons (.var 3) (.cons (.tup .nil) (.cons (.tup (.cons (.cst (.int 2)) (.cons (.cst (.int 1)) .nil))) .nil)))) .nil)))))))
    (.cons (.asg (.nm 2) (.bin .add (.var 2) (.fl (.disp (.cons (.call .sure_gap (.cons (.var 3) (.cons (.var 1) (.cons (.tup (.cons (.cst (.int 2)) (.cons (.cst (.int 1)) .nil))) .nil)))) (.cons (.call .hoped_gap (.cons (.var 3) (.cons (.var 1) (.cons (.tup (.cons (.cst (.int 0)) (.cons (.cst (.int 1)) .nil))) .nil)))) (.cons (.call .sure_gap (.cons (.tup (.cons (.cst (.int 7)) (.cons (.cst (.int 1)) (.cons (.cst (.int 1)) .nil)))) (.cons (.tup (.cons (.tup (.cons (.cst (.str "sum")) (.cons (.tup (.cons (.cst (.int 0)) .nil)) (.cons (.cst (.int 2)) (.cons (.cst (.int 2)) .nil))))) .nil)) (.cons (.tup (.cons (.cst (.int 0)) (.cons (.cst (.int 0)) .nil))) .nil)))) .nil)))))))
    (.cons (.ret (.and (.cmp .eq (.var 2) (.fl (.disp (.cons (.cst (.int 2)) (.cons (.cst (.int 4)) (.cons (.cst (.int 0)) (.cons (.cst (.int 9)) (.cons (.cst (.int 2)) (.cons (.cst (.int 1)) (.cons (.cst (.int 0)) .nil)))))))))) (.cmp .eq (.call .sure_gap (.cons (.tup (.cons (.cst (.int 7)) (.cons (.cst (.int 1)) (.cons (.cst (.int 1)) .nil)))) (.cons (.tup (.cons (.tup (.cons (.cst (.str "sum")) (.cons (.tup (.cons (.cst (.int 0)) (.cons (.cst (.int 1)) .nil))) (.cons (.cst (.int 0)) (.cons (.cst (.int 3)) .nil))))) .nil)) (.cons (.tup (.cons (.cst (.int 1)) (.cons (.cst (.int 0)) .nil))) .nil)))) (.cst (.int 4)))))
    .nil)))))))), true, none⟩
def d_law_k07 : PDef := ⟨1, 11,
    (.cons (.for_ (.nm 1) (.rng (.blt .max2 (.cons (.cst (.int 5)) (.cons (.blt .min2 (.cons (.cst (.int 11)) (.cons (.blt .len (.cons (.var 0) .nil)) .nil))) .nil)))) (.cons (.asg (.nm 2) (.call .l_vat (.cons (.var 0) (.cons (.var 1) .nil))))
    (.cons (.asg (.nm 3) (.call .l_wardrobe (.cons (.var 2) (.cons (.cst (.int 3)) .nil))))
    (.cons (.asg (.tp [(.nm 6), (.nm 7)]) (.tup (.cons (.call .l_facts (.cons (.var 2) (.cons (.var 3) (.cons (.cst (.int 3)) .nil)))) (.cons (.idx (.call .l_shelves (.cons (.var 2) (.cons (.var 3) .nil))) (.cst (.int 0))) .nil))))
    (.cons (.for_ (.nm 4) (.rng (.cst (.int 2))) (.cons (.asg (.nm 8) (.tup (.cons (.call .l_under (.cons (.var 2) (.cons (.bin .add (.idx (.var 3) (.cst (.int 1))) (.cst (.int 1))) .nil))) (.cons (.call .l_under (.cons (.var 2) (.cons (.bin .add (.idx (.var 3) (.cst (.int 2))) (.cst (.int 1))) .nil))) .nil))))
    (.cons (.ifs (.not (.call .l_can (.cons (.call .l_lines (.cons (.var 3) (.cons (.var 6) .nil))) .nil))) (.cons (.asg (.nm 9) (.fl (.comp [10] (.nm 10) (.val (.tup (.cons (.fn .sure_gap) (.cons (.fn .hoped_gap) .nil)))) (.cst (.bl true)) (.err (.callv (.var 10) (.cons (.var 3) (.cons (.var 6) (.cons (.var 8) .nil))))))))
    (.cons (.ifs (.cmp .ne (.bin .add (.var 9) (.fl (.disp (.cons (.err (.call .free (.cons (.var 3) (.cons (.var 6) (.cons (.var 8) (.cons (.var 7) .nil)))))) .nil)))) (.bin .mul (.fl (.disp (.cons (.cst (.str "impossible value")) .nil))) (.cst (.int 3)))) (.cons (.ret (.cst (.bl false)))
    .nil) .nil)
    .nil)) (.cons (.ifs (.cmp .ne (.call .free (.cons (.var 3) (.cons (.var 6) (.cons (.var 8) (.cons (.var 7) .nil))))) (.call .l_free (.cons (.var 3) (.cons (.var 6) (.cons (.var 8) (.cons (.var 7) .nil)))))) (.cons (.ret (.cst (.bl false)))
    .nil) (.cons (.ifs (.not (.call .l_gap_right (.cons (.fn .l_sure) (.cons (.var 3) (.cons (.var 6) (.cons (.var 8) (.cons (.call .sure_gap (.cons (.var 3) (.cons (.var 6) (.cons (.var 8) .nil)))) .nil))))))) (.cons (.ret (.cst (.bl false)))
    .nil) (.cons (.ifs (.not (.call .l_gap_right (.cons (.fn .l_hoped) (.cons (.var 3) (.cons (.var 6) (.cons (.var 8) (.cons (.call .hoped_gap (.cons (.var 3) (.cons (.var 6) (.cons (.var 8) .nil)))) .nil))))))) (.cons (.ret (.cst (.bl false)))
    .nil) .nil)
    .nil))
    .nil))
    .nil))
    .nil)))
    (.cons (.for_ (.nm 5) (.val (.fl (.disp (.cons (.cst .non) (.cons (.tup (.cons (.cst (.int 0)) .nil)) (.cons (.tup (.cons (.cst (.int 0)) (.cons (.cst (.int 9)) .nil))) (.cons (.tup (.cons (.neg (.cst (.int 1))) (.cons (.cst (.int 0)) .nil))) .nil))))))) (.cons (.asg (.nm 9) (.fl (.comp [10] (.nm 10) (.val (.tup (.cons (.fn .sure_gap) (.cons (.fn .hoped_gap) .nil)))) (.cst (.bl true)) (.err (.callv (.var 10) (.cons (.var 3) (.cons (.var 6) (.cons (.var 5) .nil))))))))
    (.cons (.ifs (.cmp .ne (.bin .add (.var 9) (.fl (.disp (.cons (.err (.call .free (.cons (.var 3) (.cons (.var 6) (.cons (.var 5) (.cons (.cst .non) .nil)))))) .nil)))) (.bin .mul (.fl (.disp (.cons (.cst (.str "standing value")) .nil))) (.cst (.int 3)))) (.cons (.ret (.cst (.bl false)))
    .nil) .nil)
    .nil)))
    (.cons (.for_ (.nm 5) (.val (.fl (.disp (.cons (.cst .non) (.cons (.tup (.cons (.cst (.int 0)) (.cons (.cst (.int 0)) .nil))) (.cons (.tup (.cons (.tup (.cons (.cst (.int 0)) (.cons (.cst (.int 1)) .nil))) .nil)) (.cons (.tup (.cons (.cst (.int 0)) (.cons (.bin .add (.idx (.var 3) (.cst (.int 0))) (.cst (.int 1))) .nil))) .nil))))))) (.cons (.ifs (.cmp .ne (.err (.call .free (.cons (.var 3) (.cons (.var 6) (.cons (.var 8) (.cons (.var 5) .nil)))))) (.cst (.str "shelves value"))) (.cons (.ret (.cst (.bl false)))
    .nil) .nil)
    .nil))
    .nil)))))))
    (.cons (.ret (.call .l_by_hand_k07 .nil))
    .nil)), true, none⟩
def d_all_moves : PDef := ⟨1, 4,
    (.cons (.asg (.nm 1) (.fl (.disp .nil)))
    (.cons (.for_ (.nm 2) (.val (.tup (.cons (.cst (.str "drive")) (.cons (.cst (.str "push")) .nil)))) (.cons (.for_ (.nm 3) (.rng (.bin .add (.idx (.var 0) (.cst (.int 1))) (.idx (.var 0) (.cst (.int 2))))) (.cons (.asg (.nm 1) (.bin .add (.var 1) (.fl (.disp (.cons (.tup (.cons (.var 2) (.cons (.var 3) (.cons (.cst (.str "left")) .nil)))) (.cons (.tup (.cons (.var 2) (.cons (.var 3) (.cons (.cst (.str "right")) .nil)))) .nil))))))
    .nil))
    .nil))
    (.cons (.ret (.var 1))
    .nil))), true, none⟩
def d_freeing : PDef := ⟨4, 11,
    (.cons (.ex (.call .need_facts (.cons (.var 0) (.cons (.var 1) .nil))))
    (.cons (.ex (.call .need_standing (.cons (.var 0) (.cons (.var 2) .nil))))
    (.cons (.ex (.call .need_shelf (.cons (.var 0) (.cons (.var 3) .nil))))
    (.cons (.ex (.call .need_possible (.cons (.var 0) (.cons (.var 1) .nil))))
    (.cons .bad
    (.cons (.whl (.cmp .lt (.var 6) (.blt .len (.cons (.var 4) .nil))) (.cons (.asg (.tp [(.nm 8), (.nm 9)]) (.idx (.var 4) (.var 6)))
    (.cons (.ifs (.cmp .eq (.call .free_word (.cons (.var 0) (.cons (.var 1) (.cons (.var 8) (.cons (.var 3) .nil))))) (.cst (.str "always"))) (.cons (.ret (.var 9))
    .nil) .nil)
    (.cons (.for_ (.nm 7) (.val (.call .all_moves (.cons (.var 0) .nil))) (.cons (.asg (.nm 10) (.call .moved (.cons (.var 0) (.cons (.var 8) (.cons (.var 7) .nil)))))
    (.cons (.ifs (.cmp .notin (.var 10) (.var 5)) (.cons (.setI (.var 5) (.var 10) (.cst (.bl true)))
    (.cons (.app (.var 4) (.tup (.cons (.var 10) (.cons (.bin .add (.var 9) (.tup (.cons (.var 7) .nil))) .nil))))
    .nil)) .nil)
    .nil)))
    (.cons (.asg (.nm 6) (.bin .add (.var 6) (.cst (.int 1))))
    .nil)))))
    (.cons (.ret (.cst .non))
    .nil))))))), true, none⟩
def d_l_moves : PDef := ⟨1, 4,
    (.cons (.asg (.nm 1) (.fl (.disp .nil)))
    (.cons (.for_ (.nm 2) (.val (.fl (.disp (.cons (.cst (.str "drive")) (.cons (.cst (.str "push")) .nil))))) (.cons (.for_ (.nm 3) (.rng (.bin .add (.idx (.var 0) (.cst (.int 1))) (.idx (.var 0) (.cst (.int 2))))) (.cons (.asg (.nm 1) (.bin .add (.var 1) (.fl (.disp (.cons (.tup (.cons (.var 2) (.cons (.var 3) (.cons (.cst (.str "left")) .nil)))) (.cons (.tup (.cons (.var 2) (.cons (.var 3) (.cons (.cst (.str "right")) .nil)))) .nil))))))
    .nil))
    .nil))
    (.cons (.ret (.var 1))
    .nil))), true, none⟩
def d_l_due : PDef := ⟨4, 12,
    (.cons (.par [4, 5] (.cons (.fl (.disp (.cons (.tup (.cons (.var 2) (.cons (.tup .nil) .nil))) .nil))) (.cons (.nl (.disp (.cons (.var 2) .nil))) .nil)))
    (.cons (.whl (.cmp .ne (.var 4) (.fl (.disp .nil))) (.cons (.asg (.nm 6) (.fl (.comp [8, 9] (.tp [(.nm 8), (.nm 9)]) (.val (.var 4)) (.cmp .eq (.call .free (.cons (.var 0) (.cons (.var 1) (.cons (.var 8) (.cons (.var 3) .nil))))) (.cst (.str "always"))) (.var 9))))
    (.cons (.ifs (.cmp .ne (.var 6) (.fl (.disp .nil))) (.cons .bad
    .nil) .nil)
    (.cons (.asg (.nm 7) (.nl (.disp .nil)))
    (.cons (.for_ (.tp [(.nm 8), (.nm 9)]) (.val (.var 4)) (.cons (.for_ (.nm 10) (.val (.call .l_moves (.cons (.var 0) .nil))) (.cons (.asg (.nm 11) (.call .after (.cons (.var 0) (.cons (.var 8) (.cons (.tup (.cons (.var 10) .nil)) .nil)))))
    (.cons (.ifs (.cmp .notin (.var 11) (.var 5)) (.cons (.app (.var 5) (.var 11))
    (.cons (.app (.var 7) (.tup (.cons (.var 11) (.cons (.bin .add (.var 9) (.tup (.cons (.var 10) .nil))) .nil))))
    .nil)) .nil)
    .nil)))
    .nil))
    (.cons (.asg (.nm 4) (.var 7))
    .nil))))))
    (.cons (.ret (.cst .non))
    .nil))), true, none⟩
def d_law_k08 : PDef := ⟨1, 13,
    (.cons (.for_ (.nm 1) (.rng (.blt .max2 (.cons (.cst (.int 5)) (.cons (.blt .min2 (.cons (.cst (.int 10)) (.cons (.blt .len (.cons (.var 0) .nil)) .nil))) .nil)))) (.cons (.asg (.nm 5) (.call .l_vat (.cons (.var 0) (.cons (.var 1) .nil))))
    (.cons (.asg (.nm 6) (.call .l_wardrobe (.cons (.var 5) (.cons (.cst (.int 4)) .nil))))
    (.cons (.asg (.tp [(.nm 12), (.nm 9)]) (.tup (.cons (.call .l_facts (.cons (.var 5) (.cons (.var 6) (.cons (.cst (.int 3)) .nil)))) (.cons (.idx (.call .l_shelves (.cons (.var 5) (.cons (.var 6) .nil))) (.cst (.int 0))) .nil))))
    (.cons (.asg (.nm 7) (.tup (.cons (.call .l_under (.cons (.var 5) (.cons (.bin .add (.idx (.var 6) (.cst (.int 1))) (.cst (.int 1))) .nil))) (.cons (.call .l_under (.cons (.var 5) (.cons (.bin .add (.idx (.var 6) (.cst (.int 2))) (.cst (.int 1))) .nil))) .nil))))
    (.cons (.ifs (.not (.call .l_can (.cons (.call .l_lines (.cons (.var 6) (.cons (.var 12) .nil))) .nil))) (.cons (.ifs (.cmp .ne (.err (.call .freeing (.cons (.var 6) (.cons (.var 12) (.cons (.var 7) (.cons (.var 9) .nil)))))) (.cst (.str "impossible value"))) (.cons (.ret (.cst (.bl false)))
    .nil) .nil)
    .nil) (.cons (.ifs (.cmp .ne (.call .freeing (.cons (.var 6) (.cons (.var 12) (.cons (.var 7) (.cons (.var 9) .nil))))) (.call .l_due (.cons (.var 6) (.cons (.var 12) (.cons (.var 7) (.cons (.var 9) .nil)))))) (.cons (.ret (.cst (.bl false)))
    .nil) .nil)
    .nil))
    (.cons (.ifs (.cmp .ne (.err (.call .freeing (.cons (.var 6) (.cons (.var 12) (.cons (.tup (.cons (.cst (.int 9)) (.cons (.cst (.int 9)) .nil))) (.cons (.cst .non) .nil)))))) (.cst (.str "standing value"))) (.cons (.ret (.cst (.bl false)))
    .nil) .nil)
    (.cons (.ifs (.cmp .ne (.err (.call .freeing (.cons (.var 6) (.cons (.var 12) (.cons (.var 7) (.cons (.tup (.cons (.cst (.int 1)) (.cons (.cst (.int 1)) .nil))) .nil)))))) (.cst (.str "shelves value"))) (.cons (.ret (.cst (.bl false)))
    .nil) .nil)
    .nil))))))))
    (.cons (.asg (.tp [(.nm 8), (.nm 9)]) (.tup (.cons (.tup (.cons (.cst (.int 10)) (.cons (.cst (.int 2)) (.cons (.cst (.int 1)) .nil)))) (.cons (.tup (.cons (.cst (.int 4)) (.cons (.cst (.int 6)) .nil))) .nil))))
    (.cons (.asg (.nm 2) (.tup (.cons (.tup (.cons (.cst (.str "sum")) (.cons (.tup (.cons (.cst (.int 0)) (.cons (.cst (.int 1)) .nil))) (.cons (.cst (.int 6)) (.cons (.cst (.int 8)) .nil))))) (.cons (.tup (.cons (.cst (.str "wider")) (.cons (.tup (.cons (.cst (.int 1)) .nil)) (.cons (.tup (.cons (.cst (.int 0)) .nil)) .nil)))) (.cons (.tup (.cons (.cst (.str "wider")) (.cons (.tup (.cons (.cst (.int 0)) .nil)) (.cons (.tup (.cons (.cst (.int 1)) .nil)) .nil)))) .nil)))))
    (.cons (.par [10, 11] (.cons (.bin .add (.var 2) (.tup (.cons (.tup (.cons (.cst (.str "sum")) (.cons (.tup (.cons (.cst (.int 2)) .nil)) (.cons (.cst (.int 3)) (.cons (.cst (.int 4)) .nil))))) .nil))) (.cons (.tup (.cons (.cst (.str "drive")) (.cons (.cst (.int 1)) (.cons (.cst (.str "right")) .nil)))) .nil)))
    (.cons (.asg (.nm 3) (.fl (.disp (.cons (.call .freeing (.cons (.var 8) (.cons (.var 10) (.cons (.tup (.cons (.cst (.int 2)) (.cons (.cst (.int 1)) .nil))) (.cons (.var 9) .nil))))) (.cons (.call .freeing (.cons (.var 8) (.cons (.var 10) (.cons (.tup (.cons (.cst (.int 1)) (.cons (.cst (.int 0)) .nil))) (.cons (.var 9) .nil))))) (.cons (.call .freeing (.cons (.var 8) (.cons (.var 2) (.cons (.tup (.cons (.cst (.int 1)) (.cons (.cst (.int 0)) .nil))) (.cons (.var 9) .nil))))) .nil))))))
    (.cons (.ifs (.or (.cmp .ne (.var 3) (.fl (.disp (.cons (.tup (.cons (.var 11) .nil)) (.cons (.tup .nil) (.cons (.cst .non) .nil)))))) (.cmp .ne (.call .freeing (.cons (.var 8) (.cons (.var 10) (.cons (.tup (.cons (.cst (.int 1)) (.cons (.cst (.int 0)) .nil))) (.cons (.tup (.cons (.cst (.int 0)) (.cons (.cst (.int 2)) .nil))) .nil))))) (.tup (.cons (.tup (.cons (.cst (.str "drive")) (.cons (.cst (.int 0)) (.cons (.cst (.str "right")) .nil)))) .nil)))) (.cons (.ret (.cst (.bl false)))
    .nil) .nil)
    (.cons (.asg (.nm 4) (.tup (.cons (.tup (.cons (.cst (.str "sum")) (.cons (.tup (.cons (.cst (.int 0)) (.cons (.cst (.int 1)) (.cons (.cst (.int 2)) .nil)))) (.cons (.cst (.int 0)) (.cons (.cst (.int 3)) .nil))))) (.cons (.tup (.cons (.cst (.str "sum")) (.cons (.tup (.cons (.cst (.int 3)) .nil)) (.cons (.cst (.int 0)) (.cons (.cst (.int 2)) .nil))))) .nil))))
    (.cons (.ifs (.cmp .ne (.call .freeing (.cons (.tup (.cons (.cst (.int 9)) (.cons (.cst (.int 3)) (.cons (.cst (.int 1)) .nil)))) (.cons (.var 4) (.cons (.tup (.cons (.cst (.int 3)) (.cons (.cst (.int 1)) .nil))) (.cons (.tup (.cons (.cst (.int 0)) (.cons (.cst (.int 5)) .nil))) .nil))))) (.tup (.cons (.tup (.cons (.cst (.str "drive")) (.cons (.cst (.int 0)) (.cons (.cst (.str "right")) .nil)))) (.cons (.tup (.cons (.cst (.str "drive")) (.cons (.cst (.int 3)) (.cons (.cst (.str "right")) .nil)))) .nil)))) (.cons (.ret (.cst (.bl false)))
    .nil) .nil)
    (.cons (.ret (.cmp .eq (.call .freeing (.cons (.tup (.cons (.cst (.int 9)) (.cons (.cst (.int 3)) (.cons (.cst (.int 1)) .nil)))) (.cons (.var 4) (.cons (.tup (.cons (.cst (.int 3)) (.cons (.cst (.int 1)) .nil))) (.cons (.tup (.cons (.cst (.int 1)) (.cons (.cst (.int 2)) .nil))) .nil))))) (.tup (.cons (.tup (.cons (.cst (.str "drive")) (.cons (.cst (.int 0)) (.cons (.cst (.str "right")) .nil)))) (.cons (.tup (.cons (.cst (.str "drive")) (.cons (.cst (.int 3)) (.cons (.cst (.str "right")) .nil)))) .nil)))))
    .nil))))))))), true, none⟩
def d_all_lots : PDef := ⟨1, 5,
    (.cons (.asg (.nm 1) (.fl (.disp (.cons (.tup .nil) .nil))))
    (.cons (.for_ (.nm 2) (.rng (.var 0)) (.cons (.asg (.nm 1) (.bin .add (.var 1) (.fl (.comp [3] (.nm 3) (.val (.var 1)) (.cst (.bl true)) (.bin .add (.var 3) (.tup (.cons (.var 2) .nil)))))))
    .nil))
    (.cons (.ret (.fl (.comp2 [4, 3] (.nm 4) (.rng (.bin .add (.var 0) (.cst (.int 1)))) [3] (.nm 3) (.val (.var 1)) (.cmp .eq (.blt .len (.cons (.var 3) .nil)) (.var 4)) (.var 3))))
    .nil))), true, none⟩
def d_is_part_of : PDef := ⟨2, 3,
    (.cons (.ret (.cmp .eq (.fl (.comp [2] (.nm 2) (.val (.var 0)) (.cmp .notin (.var 2) (.var 1)) (.var 2))) (.fl (.disp .nil))))
    .nil), true, none⟩
def d_is_possible : PDef := ⟨2, 2,
    (.cons (.ex (.call .need_facts (.cons (.var 0) (.cons (.var 1) .nil))))
    (.cons (.ret (.cmp .isnot (.call .widths_of (.cons (.var 0) (.cons (.var 1) .nil))) (.cst .non)))
    .nil)), true, none⟩
def d_quarrels : PDef := ⟨2, 6,
    (.cons (.ex (.call .need_facts (.cons (.var 0) (.cons (.var 1) .nil))))
    (.cons (.asg (.nm 2) (.nl (.disp .nil)))
    (.cons (.for_ (.nm 3) (.val (.call .all_lots (.cons (.blt .len (.cons (.var 1) .nil)) .nil))) (.cons (.ifs (.cmp .eq (.fl (.comp [4] (.nm 4) (.val (.var 2)) (.call .is_part_of (.cons (.var 4) (.cons (.var 3) .nil))) (.var 4))) (.fl (.disp .nil))) (.cons (.ifs (.cmp .is (.call .widths_of (.cons (.var 0) (.cons (.fl (.comp [5] (.nm 5) (.val (.var 3)) (.cst (.bl true)) (.idx (.var 1) (.var 5)))) .nil))) (.cst .non)) (.cons (.app (.var 2) (.var 3))
    .nil) .nil)
    .nil) .nil)
    .nil))
    (.cons (.ret (.blt .sorted (.cons (.var 2) .nil)))
    .nil)))), true, none⟩
def d_least_lots : PDef := ⟨3, 8,
    (.cons (.ex (.call .need_asked (.cons (.var 0) (.cons (.var 1) (.cons (.var 2) .nil)))))
    (.cons (.asg (.nm 3) (.nl (.disp .nil)))
    (.cons (.for_ (.nm 4) (.val (.call .all_lots (.cons (.blt .len (.cons (.var 1) .nil)) .nil))) (.cons (.asg (.nm 5) (.fl (.comp [6] (.nm 6) (.val (.var 4)) (.cst (.bl true)) (.idx (.var 1) (.var 6)))))
    (.cons (.ifs (.and (.cmp .eq (.fl (.comp [7] (.nm 7) (.val (.var 3)) (.call .is_part_of (.cons (.var 7) (.cons (.var 4) .nil))) (.var 7))) (.fl (.disp .nil))) (.cmp .isnot (.call .widths_of (.cons (.var 0) (.cons (.var 5) .nil))) (.cst .non))) (.cons (.ifs (.cmp .is (.call .barring (.cons (.var 0) (.cons (.var 5) (.cons (.var 2) .nil)))) (.cst .non)) (.cons (.app (.var 3) (.var 4))
    .nil) .nil)
    .nil) .nil)
    .nil)))
    (.cons (.ret (.blt .sorted (.cons (.var 3) .nil)))
    .nil)))), true, none⟩
def d_need_fact : PDef := ⟨2, 2,
    (.cons (.ifs (.not (.call .is_fact (.cons (.bin .add (.idx (.var 0) (.cst (.int 1))) (.idx (.var 0) (.cst (.int 2)))) (.cons (.var 1) .nil)))) (.cons (.raise .InvalidFact .nil)
    .nil) .nil)
    .nil), true, none⟩
def d_beyond : PDef := ⟨3, 6,
    (.cons (.asg (.nm 3) (.call .all_rows (.cons (.var 0) (.cons (.var 1) .nil))))
    (.cons (.for_ (.nm 4) (.val (.call .fact_rows (.cons (.var 0) (.cons (.var 2) .nil)))) (.cons (.asg (.nm 5) (.idx (.call .judged (.cons (.bin .add (.var 3) (.fl (.disp (.cons (.call .contrary (.cons (.var 4) .nil)) .nil)))) .nil)) (.cst (.int 0))))
    (.cons (.ifs (.cmp .isnot (.var 5) (.cst .non)) (.cons (.ret (.var 5))
    .nil) .nil)
    .nil)))
    (.cons (.ret (.cst .non))
    .nil))), true, none⟩
def d_surely : PDef := ⟨3, 3,
    (.cons (.ex (.call .need_facts (.cons (.var 0) (.cons (.var 1) .nil))))
    (.cons (.ex (.call .need_fact (.cons (.var 0) (.cons (.var 2) .nil))))
    (.cons (.ex (.call .need_possible (.cons (.var 0) (.cons (.var 1) .nil))))
    (.cons (.ifs (.cmp .is (.call .beyond (.cons (.var 0) (.cons (.var 1) (.cons (.var 2) .nil)))) (.cst .non)) (.cons (.ret (.cst (.bl true)))
    .nil) .nil)
    (.cons (.ret (.ife (.cmp .is (.call .widths_of (.cons (.var 0) (.cons (.bin .add (.var 1) (.tup (.cons (.var 2) .nil))) .nil))) (.cst .non)) (.cst (.bl false)) (.cst .non)))
    .nil))))), true, none⟩
def d_l_always : PDef := ⟨3, 6,
    (.cons (.asg (.nm 3) (.call .l_lines (.cons (.var 0) (.cons (.var 1) .nil))))
    (.cons (.ifs (.not (.call .l_can (.cons (.var 3) .nil))) (.cons (.ret (.cst (.bl false)))
    .nil) .nil)
    (.cons (.for_ (.nm 4) (.val (.tup (.cons (.cst (.int 0)) (.cons (.cst (.int 1)) .nil)))) (.cons (.for_ (.nm 5) (.val (.call .l_cuts (.cons (.blt .len (.cons (.var 2) .nil)) (.cons (.bin .sub (.idx (.var 0) (.bin .add (.cst (.int 1)) (.var 4))) (.cst (.int 1))) .nil)))) (.cons (.ifs (.call .l_can (.cons (.bin .add (.var 3) (.call .l_block_lines (.cons (.var 0) (.cons (.var 2) (.cons (.var 4) (.cons (.var 5) .nil)))))) .nil)) (.cons (.ret (.cst (.bl false)))
    .nil) .nil)
    .nil))
    .nil))
    (.cons (.ret (.cst (.bl true)))
    .nil)))), true, none⟩
def d_l_lots : PDef := ⟨1, 4,
    (.cons (.asg (.nm 1) (.fl (.disp (.cons (.tup .nil) .nil))))
    (.cons (.for_ (.nm 2) (.rng (.var 0)) (.cons (.asg (.nm 1) (.bin .add (.var 1) (.fl (.comp [3] (.nm 3) (.val (.var 1)) (.cst (.bl true)) (.bin .add (.var 3) (.tup (.cons (.var 2) .nil)))))))
    .nil))
    (.cons (.ret (.blt .sorted (.cons (.var 1) .nil)))
    .nil))), true, none⟩
def d_l_least : PDef := ⟨1, 6,
    (.cons (.asg (.nm 1) (.nl (.disp .nil)))
    (.cons (.for_ (.nm 2) (.val (.var 0)) (.cons (.asg (.nm 3) (.fl (.comp [4] (.nm 4) (.val (.var 0)) (.cmp .ne (.var 4) (.var 2)) (.var 4))))
    (.cons (.ifs (.cmp .eq (.fl (.comp [4] (.nm 4) (.val (.var 3)) (.cmp .eq (.fl (.comp [5] (.nm 5) (.val (.var 4)) (.cmp .notin (.var 5) (.var 2)) (.var 5))) (.fl (.disp .nil))) (.var 4))) (.fl (.disp .nil))) (.cons (.app (.var 1) (.var 2))
    .nil) .nil)
    .nil)))
    (.cons (.ret (.var 1))
    .nil))), true, none⟩
def d_l_sure_k09 : PDef := ⟨3, 6,
    (.cons (.asg (.tp [(.nm 3), (.nm 4)]) (.tup (.cons (.call .l_lines (.cons (.var 0) (.cons (.var 1) .nil))) (.cons (.call .l_fact_lines (.cons (.var 0) (.cons (.var 2) .nil))) .nil))))
    (.cons (.ifs (.cmp .eq (.fl (.comp [5] (.nm 5) (.val (.var 4)) (.call .l_can (.cons (.bin .add (.var 3) (.fl (.disp (.cons (.call .l_contrary (.cons (.var 5) .nil)) .nil)))) .nil)) (.var 5))) (.fl (.disp .nil))) (.cons (.ret (.cst (.bl true)))
    .nil) .nil)
    (.cons (.ret (.ife (.call .l_can (.cons (.bin .add (.var 3) (.var 4)) .nil)) (.cst .non) (.cst (.bl false))))
    .nil))), true, none⟩
def d_l_told_right_k09 : PDef := ⟨4, 12,
    (.cons (.par [6, 7] (.cons (.call .l_can (.cons (.call .l_lines (.cons (.var 0) (.cons (.var 1) .nil))) .nil)) (.cons (.call .l_lots (.cons (.blt .len (.cons (.var 1) .nil)) .nil)) .nil)))
    (.cons (.ifs (.not (.call .l_truly (.cons (.call .is_possible (.cons (.var 0) (.cons (.var 1) .nil))) (.cons (.var 6) .nil)))) (.cons (.ret (.cst (.bl false)))
    .nil) .nil)
    (.cons (.asg (.nm 4) (.fl (.comp [10] (.nm 10) (.val (.var 7)) (.not (.call .l_can (.cons (.call .l_lines (.cons (.var 0) (.cons (.fl (.comp [11] (.nm 11) (.val (.var 10)) (.cst (.bl true)) (.idx (.var 1) (.var 11)))) .nil))) .nil))) (.var 10))))
    (.cons (.ifs (.cmp .ne (.call .quarrels (.cons (.var 0) (.cons (.var 1) .nil))) (.call .l_least (.cons (.var 4) .nil))) (.cons (.ret (.cst (.bl false)))
    .nil) .nil)
    (.cons (.asg (.nm 5) (.fl (.comp [10] (.nm 10) (.val (.var 7)) (.call .l_always (.cons (.var 0) (.cons (.fl (.comp [11] (.nm 11) (.val (.var 10)) (.cst (.bl true)) (.idx (.var 1) (.var 11)))) (.cons (.var 2) .nil)))) (.var 10))))
    (.cons (.ifs (.cmp .ne (.call .least_lots (.cons (.var 0) (.cons (.var 1) (.cons (.var 2) .nil)))) (.call .l_least (.cons (.var 5) .nil))) (.cons (.ret (.cst (.bl false)))
    .nil) .nil)
    (.cons (.ifs (.not (.var 6)) (.cons (.ret (.cmp .eq (.err (.call .surely (.cons (.var 0) (.cons (.var 1) (.cons (.var 3) .nil))))) (.cst (.str "impossible value"))))
    .nil) .nil)
    (.cons (.par [8, 9] (.cons (.call .surely (.cons (.var 0) (.cons (.var 1) (.cons (.var 3) .nil)))) (.cons (.call .l_sure_k09 (.cons (.var 0) (.cons (.var 1) (.cons (.var 3) .nil)))) .nil)))
    (.cons (.ret (.ife (.cmp .is (.var 9) (.cst .non)) (.cmp .is (.var 8) (.cst .non)) (.call .l_truly (.cons (.var 8) (.cons (.var 9) .nil)))))
    .nil))))))))), true, none⟩
def d_l_by_hand_k09 : PDef := ⟨0, 6,
    (.cons (.asg (.tp [(.nm 2), (.nm 3)]) (.tup (.cons (.tup (.cons (.cst (.int 10)) (.cons (.cst (.int 2)) (.cons (.cst (.int 1)) .nil)))) (.cons (.tup (.cons (.tup (.cons (.cst (.int 4)) (.cons (.cst (.int 6)) .nil))) .nil)) .nil))))
    (.cons (.asg (.nm 0) (.tup (.cons (.tup (.cons (.cst (.str "sum")) (.cons (.tup (.cons (.cst (.int 0)) (.cons (.cst (.int 1)) .nil))) (.cons (.cst (.int 6)) (.cons (.cst (.int 8)) .nil))))) (.cons (.tup (.cons (.cst (.str "wider")) (.cons (.tup (.cons (.cst (.int 1)) .nil)) (.cons (.tup (.cons (.cst (.int 0)) .nil)) .nil)))) (.cons (.tup (.cons (.cst (.str "wider")) (.cons (.tup (.cons (.cst (.int 0)) .nil)) (.cons (.tup (.cons (.cst (.int 1)) .nil)) .nil)))) .nil)))))
    (.cons (.par [4, 5] (.cons (.bin .add (.var 0) (.tup (.cons (.tup (.cons (.cst (.str "sum")) (.cons (.tup (.cons (.cst (.int 2)) .nil)) (.cons (.cst (.int 3)) (.cons (.cst (.int 4)) .nil))))) .nil))) (.cons (.tup (.cons (.cst (.str "sum")) (.cons (.tup (.cons (.cst (.int 2)) .nil)) (.cons (.cst (.int 5)) (.cons (.cst (.int 6)) .nil))))) .nil)))
    (.cons (.ifs (.or (.cmp .ne (.call .quarrels (.cons (.var 2) (.cons (.bin .add (.var 4) (.tup (.cons (.var 5) .nil))) .nil))) (.fl (.disp (.cons (.tup (.cons (.cst (.int 3)) (.cons (.cst (.int 4)) .nil))) .nil)))) (.or (.cmp .ne (.call .quarrels (.cons (.var 2) (.cons (.var 4) .nil))) (.fl (.disp .nil))) (.call .is_possible (.cons (.var 2) (.cons (.bin .add (.var 4) (.tup (.cons (.var 5) .nil))) .nil))))) (.cons (.ret (.cst (.bl false)))
    .nil) .nil)
    (.cons (.ifs (.cmp .ne (.fl (.disp (.cons (.call .least_lots (.cons (.var 2) (.cons (.var 4) (.cons (.var 3) .nil)))) (.cons (.call .least_lots (.cons (.var 2) (.cons (.var 0) (.cons (.var 3) .nil)))) (.cons (.call .least_lots (.cons (.var 2) (.cons (.tup .nil) (.cons (.tup (.cons (.tup (.cons (.cst (.int 0)) (.cons (.cst (.int 1)) .nil))) .nil)) .nil)))) .nil))))) (.fl (.disp (.cons (.fl (.disp (.cons (.tup (.cons (.cst (.int 0)) (.cons (.cst (.int 1)) (.cons (.cst (.int 2)) (.cons (.cst (.int 3)) .nil))))) .nil))) (.cons (.fl (.disp .nil)) (.cons (.fl (.disp .nil)) .nil)))))) (.cons (.ret (.cst (.bl false)))
    .nil) .nil)
    (.cons (.ifs (.cmp .ne (.call .least_lots (.cons (.var 2) (.cons (.bin .add (.var 4) (.tup (.cons (.var 5) .nil))) (.cons (.var 3) .nil)))) (.fl (.disp (.cons (.tup (.cons (.cst (.int 0)) (.cons (.cst (.int 1)) (.cons (.cst (.int 2)) (.cons (.cst (.int 3)) .nil))))) .nil)))) (.cons (.ret (.cst (.bl false)))
    .nil) .nil)
    (.cons (.ifs (.cmp .ne (.call .least_lots (.cons (.tup (.cons (.cst (.int 9)) (.cons (.cst (.int 1)) (.cons (.cst (.int 1)) .nil)))) (.cons (.tup (.cons (.tup (.cons (.cst (.str "sum")) (.cons (.tup (.cons (.cst (.int 0)) (.cons (.cst (.int 1)) .nil))) (.cons (.cst (.int 0)) (.cons (.cst (.int 3)) .nil))))) (.cons (.tup (.cons (.cst (.str "sum")) (.cons (.tup (.cons (.cst (.int 0)) .nil)) (.cons (.cst (.int 0)) (.cons (.cst (.int 4)) .nil))))) (.cons (.tup (.cons (.cst (.str "sum")) (.cons (.tup (.cons (.cst (.int 1)) .nil)) (.cons (.cst (.int 1)) (.cons (.cst (.int 5)) .nil))))) .nil)))) (.cons (.tup (.cons (.tup (.cons (.cst (.int 1)) (.cons (.cst (.int 4)) .nil))) .nil)) .nil)))) (.fl (.disp (.cons (.tup (.cons (.cst (.int 0)) .nil)) (.cons (.tup (.cons (.cst (.int 1)) (.cons (.cst (.int 2)) .nil))) .nil))))) (.cons (.ret (.cst (.bl false)))
    .nil) .nil)
    (.cons (.asg (.nm 1) (.fl (.disp (.cons (.call .surely (.cons (.var 2) (.cons (.var 0) (.cons (.tup (.cons (.cst (.str "sum")) (.cons (.tup (.cons (.cst (.int 0)) .nil)) (.cons (.cst (.int 3)) (.cons (.cst (.int 4)) .nil))))) .nil)))) (.cons (.call .surely (.cons (.var 2) (.cons (.var 0) (.cons (.tup (.cons (.cst (.str "sum")) (.cons (.tup (.cons (.cst (.int 0)) .nil)) (.cons (.cst (.int 5)) (.cons (.cst .non) .nil))))) .nil)))) (.cons (.call .surely (.cons (.var 2) (.cons (.var 0) (.cons (.tup (.cons (.cst (.str "sum")) (.cons (.tup (.cons (.cst (.int 2)) .nil)) (.cons (.cst (.int 0)) (.cons (.cst (.int 5)) .nil))))) .nil)))) .nil))))))
    (.cons (.ifs (.or (.cmp .ne (.var 1) (.fl (.disp (.cons (.cst (.bl true)) (.cons (.cst (.bl false)) (.cons (.cst .non) .nil)))))) (.cmp .isnot (.call .surely (.cons (.var 2) (.cons (.tup .nil) (.cons (.tup (.cons (.cst (.str "sum")) (.cons (.tup (.cons (.cst (.int 0)) (.cons (.cst (.int 1)) .nil))) (.cons (.cst (.int 0)) (.cons (.cst (.int 10)) .nil))))) .nil)))) (.cst (.bl true)))) (.cons (.ret (.cst (.bl false)))
    .nil) .nil)
    (.cons (.ret (.cmp .eq (.call .quarrels (.cons (.var 2) (.cons (.tup (.cons (.tup (.cons (.cst (.str "sum")) (.cons (.tup (.cons (.cst (.int 0)) .nil)) (.cons (.cst (.int 6)) (.cons (.cst .non) .nil))))) (.cons (.tup (.cons (.cst (.str "sum")) (.cons (.tup (.cons (.cst (.int 1)) .nil)) (.cons (.cst (.int 5)) (.cons (.cst (.int 5)) .nil))))) (.cons (.tup (.cons (.cst (.str "wider")) (.cons (.tup (.cons (.cst (.int 1)) .nil)) (.cons (.tup (.cons (.cst (.int 0)) .nil)) .nil)))) .nil)))) .nil))) (.fl (.disp (.cons (.tup (.cons (.cst (.int 0)) (.cons (.cst (.int 1)) .nil))) (.cons (.tup (.cons (.cst (.int 0)) (.cons (.cst (.int 2)) .nil))) .nil))))))
    .nil)))))))))), true, none⟩
def d_law_k09 : PDef := ⟨1, 8,
    (.cons (.for_ (.nm 1) (.rng (.blt .max2 (.cons (.cst (.int 5)) (.cons (.blt .min2 (.cons (.cst (.int 10)) (.cons (.blt .len (.cons (.var 0) .nil)) .nil))) .nil)))) (.cons (.asg (.nm 2) (.call .l_vat (.cons (.var 0) (.cons (.var 1) .nil))))
    (.cons (.asg (.nm 3) (.call .l_wardrobe (.cons (.var 2) (.cons (.cst (.int 3)) .nil))))
    (.cons (.asg (.nm 4) (.call .l_facts (.cons (.var 2) (.cons (.var 3) (.cons (.cst (.int 4)) .nil)))))
    (.cons (.ifs (.cmp .eq (.call .l_under (.cons (.var 2) (.cons (.cst (.int 3)) .nil))) (.cst (.int 0))) (.cons (.asg (.nm 4) (.bin .add (.slt (.var 4) (.cst (.int 3))) (.tup (.cons (.call .l_fact (.cons (.var 2) (.cons (.var 3) .nil))) .nil))))
    .nil) .nil)
    (.cons (.ifs (.not (.call .l_told_right_k09 (.cons (.var 3) (.cons (.var 4) (.cons (.call .l_shelves (.cons (.var 2) (.cons (.var 3) .nil))) (.cons (.call .l_fact (.cons (.var 2) (.cons (.var 3) .nil))) .nil)))))) (.cons (.ret (.cst (.bl false)))
    .nil) .nil)
    (.cons (.for_ (.nm 5) (.val (.fl (.disp (.cons (.cst .non) (.cons (.tup .nil) (.cons (.tup (.cons (.cst (.str "sum")) (.cons (.tup (.cons (.cst (.int 9)) .nil)) (.cons (.cst (.int 0)) (.cons (.cst (.int 1)) .nil))))) (.cons (.tup (.cons (.cst (.str "sum")) (.cons (.tup (.cons (.cst (.int 0)) .nil)) (.cons (.cst (.int 2)) (.cons (.cst (.int 1)) .nil))))) .nil))))))) (.cons (.ifs (.cmp .ne (.err (.call .surely (.cons (.var 3) (.cons (.var 4) (.cons (.var 5) .nil))))) (.cst (.str "fact value"))) (.cons (.ret (.cst (.bl false)))
    .nil) .nil)
    .nil))
    (.cons (.asg (.nm 6) (.fl (.comp [7] (.nm 7) (.val (.tup (.cons (.fn .is_possible) (.cons (.fn .quarrels) .nil)))) (.cst (.bl true)) (.err (.callv (.var 7) (.cons (.var 3) (.cons (.tup (.cons (.cst .non) .nil)) .nil)))))))
    (.cons (.ifs (.cmp .ne (.bin .add (.var 6) (.fl (.disp (.cons (.err (.call .least_lots (.cons (.var 3) (.cons (.var 4) (.cons (.tup .nil) .nil))))) .nil)))) (.bin .add (.bin .mul (.fl (.disp (.cons (.cst (.str "facts value")) .nil))) (.cst (.int 2))) (.fl (.disp (.cons (.cst (.str "shelves value")) .nil))))) (.cons (.ret (.cst (.bl false)))
    .nil) .nil)
    .nil)))))))))
    (.cons (.ret (.call .l_by_hand_k09 .nil))
    .nil)), true, none⟩
def d_within : PDef := ⟨3, 5,
    (.cons (.for_ (.nm 3) (.val (.var 2)) (.cons (.asg (.nm 4) (.call .beyond (.cons (.var 0) (.cons (.var 1) (.cons (.var 3) .nil)))))
    (.cons (.ifs (.cmp .isnot (.var 4) (.cst .non)) (.cons (.ret (.var 4))
    .nil) .nil)
    .nil)))
    (.cons (.ret (.cst .non))
    .nil)), true, none⟩
def d_parted_by : PDef := ⟨3, 4,
    (.cons (.asg (.nm 3) (.call .within (.cons (.var 0) (.cons (.var 1) (.cons (.var 2) .nil)))))
    (.cons (.ret (.ife (.cmp .is (.var 3) (.cst .non)) (.call .within (.cons (.var 0) (.cons (.var 2) (.cons (.var 1) .nil)))) (.var 3)))
    .nil)), true, none⟩
def d_need_two : PDef := ⟨3, 3,
    (.cons (.ex (.call .need_facts (.cons (.var 0) (.cons (.var 1) .nil))))
    (.cons (.ifs (.not (.call .has_facts (.cons (.var 0) (.cons (.var 2) .nil)))) (.cons (.raise .InvalidFacts .nil)
    .nil) .nil)
    .nil)), true, none⟩
def d_alike : PDef := ⟨3, 3,
    (.cons (.ex (.call .need_two (.cons (.var 0) (.cons (.var 1) (.cons (.var 2) .nil)))))
    (.cons (.ret (.cmp .is (.call .parted_by (.cons (.var 0) (.cons (.var 1) (.cons (.var 2) .nil)))) (.cst .non)))
    .nil)), true, none⟩
def d_parting : PDef := ⟨3, 3,
    (.cons (.ex (.call .need_two (.cons (.var 0) (.cons (.var 1) (.cons (.var 2) .nil)))))
    (.cons (.ret (.call .parted_by (.cons (.var 0) (.cons (.var 1) (.cons (.var 2) .nil)))))
    .nil)), true, none⟩
def d_needless : PDef := ⟨2, 5,
    (.cons (.ex (.call .need_facts (.cons (.var 0) (.cons (.var 1) .nil))))
    (.cons (.asg (.nm 2) (.fl (.comp [3] (.nm 3) (.rng (.blt .len (.cons (.var 1) .nil))) (.cst (.bl true)) (.bin .add (.slt (.var 1) (.var 3)) (.slf (.var 1) (.bin .add (.var 3) (.cst (.int 1))))))))
    (.cons (.ret (.fl (.comp [3, 4] (.tp [(.nm 3), (.nm 4)]) (.enum (.var 2)) (.cmp .is (.call .beyond (.cons (.var 0) (.cons (.var 4) (.cons (.idx (.var 1) (.var 3)) .nil)))) (.cst .non)) (.var 3))))
    .nil))), true, none⟩
def d_l_within : PDef := ⟨3, 6,
    (.cons (.asg (.nm 3) (.call .l_lines (.cons (.var 0) (.cons (.var 1) .nil))))
    (.cons (.for_ (.nm 4) (.val (.var 2)) (.cons (.for_ (.nm 5) (.val (.call .l_fact_lines (.cons (.var 0) (.cons (.var 4) .nil)))) (.cons (.ifs (.call .l_can (.cons (.bin .add (.var 3) (.fl (.disp (.cons (.call .l_contrary (.cons (.var 5) .nil)) .nil)))) .nil)) (.cons (.ret (.cst (.bl false)))
    .nil) .nil)
    .nil))
    .nil))
    (.cons (.ret (.cst (.bl true)))
    .nil))), true, none⟩
def d_l_alike : PDef := ⟨3, 3,
    (.cons (.ret (.and (.call .l_within (.cons (.var 0) (.cons (.var 1) (.cons (.var 2) .nil)))) (.call .l_within (.cons (.var 0) (.cons (.var 2) (.cons (.var 1) .nil))))))
    .nil), true, none⟩
def d_l_near : PDef := ⟨3, 6,
    (.cons (.asg (.nm 3) (.call .l_under (.cons (.var 0) (.cons (.cst (.int 5)) .nil))))
    (.cons (.ifs (.cmp .eq (.var 3) (.cst (.int 0))) (.cons (.ret (.rev (.var 2)))
    .nil) .nil)
    (.cons (.ifs (.cmp .eq (.var 3) (.cst (.int 1))) (.cons (.ret (.slf (.var 2) (.cst (.int 1))))
    .nil) .nil)
    (.cons (.ifs (.cmp .eq (.var 3) (.cst (.int 2))) (.cons (.ret (.bin .add (.slt (.var 2) (.cst (.int 5))) (.tup (.cons (.call .l_fact (.cons (.var 0) (.cons (.var 1) .nil))) .nil))))
    .nil) .nil)
    (.cons (.asg (.nm 4) (.tup .nil))
    (.cons (.for_ (.nm 5) (.val (.var 2)) (.cons (.ifs (.and (.cmp .eq (.idx (.var 5) (.cst (.int 0))) (.cst (.str "sum"))) (.cmp .eq (.call .l_under (.cons (.var 0) (.cons (.cst (.int 3)) .nil))) (.cst (.int 0)))) (.cons (.asg (.nm 5) (.tup (.cons (.cst (.str "sum")) (.cons (.idx (.var 5) (.cst (.int 1))) (.cons (.idx (.var 5) (.cst (.int 2))) (.cons (.ife (.cmp .is (.idx (.var 5) (.cst (.int 3))) (.cst .non)) (.cst .non) (.bin .add (.idx (.var 5) (.cst (.int 3))) (.call .l_under (.cons (.var 0) (.cons (.cst (.int 2)) .nil))))) .nil))))))
    .nil) .nil)
    (.cons (.asg (.nm 4) (.bin .add (.var 4) (.tup (.cons (.var 5) .nil))))
    .nil)))
    (.cons (.ret (.var 4))
    .nil))))))), true, none⟩
def d_l_told_right_k10 : PDef := ⟨3, 5,
    (.cons (.par [3, 4] (.cons (.call .l_alike (.cons (.var 0) (.cons (.var 1) (.cons (.var 2) .nil)))) (.cons (.call .parting (.cons (.var 0) (.cons (.var 1) (.cons (.var 2) .nil)))) .nil)))
    (.cons (.ifs (.or (.not (.call .l_truly (.cons (.call .alike (.cons (.var 0) (.cons (.var 1) (.cons (.var 2) .nil)))) (.cons (.var 3) .nil)))) (.cmp .ne (.cmp .is (.var 4) (.cst .non)) (.var 3))) (.cons (.ret (.cst (.bl false)))
    .nil) .nil)
    (.cons (.ifs (.cmp .is (.var 4) (.cst .non)) (.cons (.ret (.cst (.bl true)))
    .nil) .nil)
    (.cons (.ret (.and (.call .l_are_widths (.cons (.var 0) (.cons (.var 4) .nil))) (.cmp .ne (.call .l_keeps (.cons (.var 1) (.cons (.var 4) .nil))) (.call .l_keeps (.cons (.var 2) (.cons (.var 4) .nil))))))
    .nil)))), true, none⟩
def d_law_k10 : PDef := ⟨1, 16,
    (.cons (.for_ (.nm 1) (.rng (.blt .max2 (.cons (.cst (.int 5)) (.cons (.blt .min2 (.cons (.cst (.int 11)) (.cons (.blt .len (.cons (.var 0) .nil)) .nil))) .nil)))) (.cons (.asg (.nm 6) (.call .l_vat (.cons (.var 0) (.cons (.var 1) .nil))))
    (.cons (.asg (.nm 7) (.call .l_wardrobe (.cons (.var 6) (.cons (.cst (.int 3)) .nil))))
    (.cons (.asg (.nm 8) (.call .l_facts (.cons (.var 6) (.cons (.var 7) (.cons (.cst (.int 4)) .nil)))))
    (.cons (.for_ (.nm 9) (.val (.fl (.disp (.cons (.call .l_near (.cons (.var 6) (.cons (.var 7) (.cons (.var 8) .nil)))) (.cons (.call .l_near (.cons (.var 6) (.cons (.var 7) (.cons (.var 8) .nil)))) (.cons (.call .l_facts (.cons (.var 6) (.cons (.var 7) (.cons (.cst (.int 2)) .nil)))) .nil)))))) (.cons (.ifs (.or (.not (.call .l_told_right_k10 (.cons (.var 7) (.cons (.var 8) (.cons (.var 9) .nil))))) (.not (.call .l_told_right_k10 (.cons (.var 7) (.cons (.var 9) (.cons (.var 8) .nil)))))) (.cons (.ret (.cst (.bl false)))
    .nil) .nil)
    .nil))
    (.cons (.asg (.nm 10) (.nl (.disp .nil)))
    (.cons (.for_ (.nm 11) (.rng (.blt .len (.cons (.var 8) .nil))) (.cons (.ifs (.call .l_alike (.cons (.var 7) (.cons (.var 8) (.cons (.bin .add (.slt (.var 8) (.var 11)) (.slf (.var 8) (.bin .add (.var 11) (.cst (.int 1))))) .nil)))) (.cons (.app (.var 10) (.var 11))
    .nil) .nil)
    .nil))
    (.cons (.ifs (.cmp .ne (.call .needless (.cons (.var 7) (.cons (.var 8) .nil))) (.var 10)) (.cons (.ret (.cst (.bl false)))
    .nil) .nil)
    (.cons (.asg (.nm 12) (.fl (.comp [15] (.nm 15) (.val (.tup (.cons (.fn .alike) (.cons (.fn .parting) .nil)))) (.cst (.bl true)) (.err (.callv (.var 15) (.cons (.var 7) (.cons (.cst .non) (.cons (.cst .non) .nil))))))))
    (.cons (.asg (.nm 12) (.bin .add (.var 12) (.fl (.comp [15] (.nm 15) (.val (.tup (.cons (.fn .alike) (.cons (.fn .parting) .nil)))) (.cst (.bl true)) (.err (.callv (.var 15) (.cons (.var 7) (.cons (.var 8) (.cons (.tup (.cons (.cst .non) .nil)) .nil)))))))))
    (.cons (.ifs (.cmp .ne (.bin .add (.var 12) (.fl (.disp (.cons (.err (.call .needless (.cons (.var 7) (.cons (.fl (.disp (.cons (.tup .nil) .nil))) .nil)))) .nil)))) (.bin .mul (.fl (.disp (.cons (.cst (.str "facts value")) .nil))) (.cst (.int 5)))) (.cons (.ret (.cst (.bl false)))
    .nil) .nil)
    .nil)))))))))))
    (.cons (.asg (.nm 2) (.tup (.cons (.cst (.int 10)) (.cons (.cst (.int 2)) (.cons (.cst (.int 1)) .nil)))))
    (.cons (.asg (.nm 3) (.tup (.cons (.tup (.cons (.cst (.str "sum")) (.cons (.tup (.cons (.cst (.int 0)) (.cons (.cst (.int 1)) .nil))) (.cons (.cst (.int 6)) (.cons (.cst (.int 8)) .nil))))) (.cons (.tup (.cons (.cst (.str "wider")) (.cons (.tup (.cons (.cst (.int 1)) .nil)) (.cons (.tup (.cons (.cst (.int 0)) .nil)) .nil)))) (.cons (.tup (.cons (.cst (.str "wider")) (.cons (.tup (.cons (.cst (.int 0)) .nil)) (.cons (.tup (.cons (.cst (.int 1)) .nil)) .nil)))) .nil)))))
    (.cons (.asg (.nm 4) (.bin .add (.tup (.cons (.tup (.cons (.cst (.str "sum")) (.cons (.tup (.cons (.cst (.int 0)) .nil)) (.cons (.cst (.int 3)) (.cons (.cst (.int 4)) .nil))))) (.cons (.tup (.cons (.cst (.str "sum")) (.cons (.tup (.cons (.cst (.int 1)) .nil)) (.cons (.cst (.int 3)) (.cons (.cst (.int 4)) .nil))))) .nil))) (.slf (.var 3) (.cst (.int 1)))))
    (.cons (.ifs (.or (.cmp .isnot (.call .alike (.cons (.var 2) (.cons (.var 3) (.cons (.var 4) .nil)))) (.cst (.bl true))) (.or (.cmp .isnot (.call .parting (.cons (.var 2) (.cons (.var 3) (.cons (.var 4) .nil)))) (.cst .non)) (.cmp .ne (.call .needless (.cons (.var 2) (.cons (.var 4) .nil))) (.fl (.disp (.cons (.cst (.int 0)) (.cons (.cst (.int 1)) .nil))))))) (.cons (.ret (.cst (.bl false)))
    .nil) .nil)
    (.cons (.asg (.nm 5) (.bin .add (.var 3) (.tup (.cons (.tup (.cons (.cst (.str "sum")) (.cons (.tup (.cons (.cst (.int 2)) .nil)) (.cons (.cst (.int 3)) (.cons (.cst (.int 4)) .nil))))) .nil))))
    (.cons (.ifs (.or (.cmp .isnot (.call .alike (.cons (.var 2) (.cons (.var 3) (.cons (.var 5) .nil)))) (.cst (.bl false))) (.or (.cmp .ne (.call .needless (.cons (.var 2) (.cons (.var 5) .nil))) (.fl (.disp .nil))) (.cmp .ne (.call .needless (.cons (.var 2) (.cons (.tup (.cons (.tup (.cons (.cst (.str "sum")) (.cons (.tup (.cons (.cst (.int 0)) (.cons (.cst (.int 1)) .nil))) (.cons (.cst (.int 0)) (.cons (.cst (.int 10)) .nil))))) .nil)) .nil))) (.fl (.disp (.cons (.cst (.int 0)) .nil)))))) (.cons (.ret (.cst (.bl false)))
    .nil) .nil)
    (.cons (.asg (.tp [(.nm 13), (.nm 14)]) (.tup (.cons (.tup (.cons (.tup (.cons (.cst (.str "sum")) (.cons (.tup (.cons (.cst (.int 0)) .nil)) (.cons (.cst (.int 11)) (.cons (.cst .non) .nil))))) .nil)) (.cons (.tup (.cons (.tup (.cons (.cst (.str "sum")) (.cons (.tup (.cons (.cst (.int 2)) .nil)) (.cons (.cst (.int 4)) (.cons (.cst (.int 4)) .nil))))) (.cons (.tup (.cons (.cst (.str "sum")) (.cons (.tup (.cons (.cst (.int 2)) .nil)) (.cons (.cst (.int 5)) (.cons (.cst (.int 5)) .nil))))) .nil))) .nil))))
    (.cons (.ret (.and (.cmp .is (.call .alike (.cons (.var 2) (.cons (.var 13) (.cons (.var 14) .nil)))) (.cst (.bl true))) (.and (.call .l_told_right_k10 (.cons (.var 2) (.cons (.var 13) (.cons (.var 3) .nil)))) (.cmp .eq (.call .needless (.cons (.var 2) (.cons (.var 14) .nil))) (.fl (.disp .nil))))))
    .nil))))))))), true, none⟩
def d_lot_word : PDef := ⟨1, 2,
    (.cons (.ret (.mth .join (.cst (.str "+")) (.cons (.fl (.comp [1] (.nm 1) (.val (.var 0)) (.cst (.bl true)) (.blt .str (.cons (.var 1) .nil)))) .nil)))
    .nil), true, none⟩
def d_fact_line : PDef := ⟨1, 1,
    (.cons (.ifs (.cmp .eq (.idx (.var 0) (.cst (.int 0))) (.cst (.str "wider"))) (.cons (.ret (.mth .join (.cst (.str " ")) (.cons (.fl (.disp (.cons (.cst (.str "wider")) (.cons (.call .lot_word (.cons (.idx (.var 0) (.cst (.int 1))) .nil)) (.cons (.call .lot_word (.cons (.idx (.var 0) (.cst (.int 2))) .nil)) .nil))))) .nil)))
    .nil) .nil)
    (.cons (.ret (.mth .join (.cst (.str " ")) (.cons (.fl (.disp (.cons (.cst (.str "sum")) (.cons (.call .lot_word (.cons (.idx (.var 0) (.cst (.int 1))) .nil)) (.cons (.blt .str (.cons (.idx (.var 0) (.cst (.int 2))) .nil)) (.cons (.ife (.cmp .is (.idx (.var 0) (.cst (.int 3))) (.cst .non)) (.cst (.str "-")) (.blt .str (.cons (.idx (.var 0) (.cst (.int 3))) .nil))) .nil)))))) .nil)))
    .nil)), true, none⟩
def d_wardrobe_line : PDef := ⟨1, 2,
    (.cons (.ret (.mth .join (.cst (.str " ")) (.cons (.bin .add (.fl (.disp (.cons (.cst (.str "wardrobe")) .nil))) (.fl (.comp [1] (.nm 1) (.val (.var 0)) (.cst (.bl true)) (.blt .str (.cons (.var 1) .nil))))) .nil)))
    .nil), true, none⟩
def d_text_of : PDef := ⟨2, 3,
    (.cons (.ret (.mth .join (.cst (.str "\n")) (.cons (.bin .add (.fl (.disp (.cons (.call .wardrobe_line (.cons (.var 0) .nil)) .nil))) (.fl (.comp [2] (.nm 2) (.val (.var 1)) (.cst (.bl true)) (.call .fact_line (.cons (.var 2) .nil))))) .nil)))
    .nil), true, none⟩
def d_facts_text : PDef := ⟨2, 2,
    (.cons (.ex (.call .need_facts (.cons (.var 0) (.cons (.var 1) .nil))))
    (.cons (.ret (.call .text_of (.cons (.var 0) (.cons (.var 1) .nil))))
    .nil)), true, none⟩
def d_number_from : PDef := ⟨1, 2,
    (.cons (.ifs (.or (.not (.chain .le .le (.cst (.int 1)) (.blt .len (.cons (.var 0) .nil)) (.cst (.int 7)))) (.cmp .ne (.fl (.comp [1] (.nm 1) (.val (.var 0)) (.cmp .notin (.var 1) (.cst (.str "0123456789"))) (.var 1))) (.fl (.disp .nil)))) (.cons (.ret (.cst .non))
    .nil) .nil)
    (.cons (.ret (.ife (.cmp .eq (.blt .str (.cons (.blt .int (.cons (.var 0) .nil)) .nil)) (.var 0)) (.blt .int (.cons (.var 0) .nil)) (.cst .non)))
    .nil)), true, none⟩
def d_lot_from : PDef := ⟨1, 2,
    (.cons (.ret (.blt .tuple (.cons (.fl (.comp [1] (.nm 1) (.val (.mth .split (.var 0) (.cons (.cst (.str "+")) .nil))) (.cst (.bl true)) (.call .number_from (.cons (.var 1) .nil)))) .nil)))
    .nil), true, none⟩
def d_wardrobe_from : PDef := ⟨1, 4,
    (.cons (.asg (.nm 1) (.mth .split (.var 0) (.cons (.cst (.str " ")) .nil)))
    (.cons (.asg (.nm 2) (.blt .tuple (.cons (.fl (.comp [3] (.nm 3) (.val (.slf (.var 1) (.cst (.int 1)))) (.cst (.bl true)) (.call .number_from (.cons (.var 3) .nil)))) .nil)))
    (.cons (.ret (.ife (.and (.cmp .eq (.idx (.var 1) (.cst (.int 0))) (.cst (.str "wardrobe"))) (.call .has_wardrobe (.cons (.var 2) .nil))) (.var 2) (.cst .non)))
    .nil))), true, none⟩
def d_fact_from : PDef := ⟨1, 4,
    (.cons (.asg (.nm 1) (.mth .split (.var 0) (.cons (.cst (.str " ")) .nil)))
    (.cons (.ifs (.and (.cmp .eq (.idx (.var 1) (.cst (.int 0))) (.cst (.str "wider"))) (.cmp .eq (.blt .len (.cons (.var 1) .nil)) (.cst (.int 3)))) (.cons (.asg (.nm 2) (.tup (.cons (.cst (.str "wider")) (.cons (.call .lot_from (.cons (.idx (.var 1) (.cst (.int 1))) .nil)) (.cons (.call .lot_from (.cons (.idx (.var 1) (.cst (.int 2))) .nil)) .nil)))))
    .nil) (.cons (.ifs (.and (.cmp .eq (.idx (.var 1) (.cst (.int 0))) (.cst (.str "sum"))) (.cmp .eq (.blt .len (.cons (.var 1) .nil)) (.cst (.int 4)))) (.cons (.asg (.nm 3) (.call .number_from (.cons (.idx (.var 1) (.cst (.int 3))) .nil)))
    (.cons (.ifs (.and (.cmp .is (.var 3) (.cst .non)) (.cmp .ne (.idx (.var 1) (.cst (.int 3))) (.cst (.str "-")))) (.cons (.ret (.cst .non))
    .nil) .nil)
    (.cons (.asg (.nm 2) (.tup (.cons (.cst (.str "sum")) (.cons (.call .lot_from (.cons (.idx (.var 1) (.cst (.int 1))) .nil)) (.cons (.call .number_from (.cons (.idx (.var 1) (.cst (.int 2))) .nil)) (.cons (.var 3) .nil))))))
    .nil))) (.cons (.ret (.cst .non))
    .nil))
    .nil))
    (.cons (.ret (.ife (.call .is_fact (.cons (.cst (.int 6)) (.cons (.var 2) .nil))) (.var 2) (.cst .non)))
    .nil))), true, none⟩
def d_read_facts : PDef := ⟨1, 6,
    (.cons (.ifs (.not (.isi (.var 0) .str)) (.cons .bad
    .nil) .nil)
    (.cons (.asg (.nm 1) (.mth .split (.var 0) (.cons (.cst (.str "\n")) .nil)))
    (.cons (.for_ (.tp [(.nm 2), (.nm 3)]) (.enum (.var 1)) (.cons (.ifs (.and (.cmp .is (.call .wardrobe_from (.cons (.var 3) .nil)) (.cst .non)) (.cmp .is (.call .fact_from (.cons (.var 3) .nil)) (.cst .non))) (.cons .bad
    .nil) .nil)
    .nil))
    (.cons (.par [4, 5] (.cons (.call .wardrobe_from (.cons (.idx (.var 1) (.cst (.int 0))) .nil)) (.cons (.blt .tuple (.cons (.fl (.comp [3] (.nm 3) (.val (.slf (.var 1) (.cst (.int 1)))) (.cst (.bl true)) (.call .fact_from (.cons (.var 3) .nil)))) .nil)) .nil)))
    (.cons (.ifs (.or (.cmp .is (.var 4) (.cst .non)) (.not (.call .has_facts (.cons (.var 4) (.cons (.var 5) .nil))))) (.cons .bad
    .nil) .nil)
    (.cons (.ret (.tup (.cons (.var 4) (.cons (.var 5) .nil))))
    .nil)))))), true, none⟩
def d_l_words : PDef := ⟨1, 4,
    (.cons (.asg (.nm 1) (.mth .join (.cst (.str "+")) (.cons (.fl (.comp [3] (.nm 3) (.val (.idx (.var 0) (.cst (.int 1)))) (.cst (.bl true)) (.blt .str (.cons (.var 3) .nil)))) .nil)))
    (.cons (.ifs (.cmp .eq (.idx (.var 0) (.cst (.int 0))) (.cst (.str "wider"))) (.cons (.ret (.bin .add (.bin .add (.bin .add (.cst (.str "wider ")) (.var 1)) (.cst (.str " "))) (.mth .join (.cst (.str "+")) (.cons (.fl (.comp [3] (.nm 3) (.val (.idx (.var 0) (.cst (.int 2)))) (.cst (.bl true)) (.blt .str (.cons (.var 3) .nil)))) .nil))))
    .nil) .nil)
    (.cons (.asg (.nm 2) (.ife (.cmp .is (.idx (.var 0) (.cst (.int 3))) (.cst .non)) (.cst (.str "-")) (.blt .str (.cons (.idx (.var 0) (.cst (.int 3))) .nil))))
    (.cons (.ret (.bin .add (.bin .add (.bin .add (.bin .add (.bin .add (.cst (.str "sum ")) (.var 1)) (.cst (.str " "))) (.blt .str (.cons (.idx (.var 0) (.cst (.int 2))) .nil))) (.cst (.str " "))) (.var 2)))
    .nil)))), true, none⟩
def d_l_text : PDef := ⟨2, 5,
    (.cons (.asg (.nm 2) (.mth .join (.cst (.str " ")) (.cons (.bin .add (.fl (.disp (.cons (.cst (.str "wardrobe")) .nil))) (.fl (.comp [4] (.nm 4) (.val (.var 0)) (.cst (.bl true)) (.blt .str (.cons (.var 4) .nil))))) .nil)))
    (.cons (.for_ (.nm 3) (.val (.var 1)) (.cons (.asg (.nm 2) (.bin .add (.bin .add (.var 2) (.cst (.str "\n"))) (.call .l_words (.cons (.var 3) .nil))))
    .nil))
    (.cons (.ret (.var 2))
    .nil))), true, none⟩
def d_law_k11 : PDef := ⟨1, 7,
    (.cons (.for_ (.nm 1) (.rng (.blt .max2 (.cons (.cst (.int 6)) (.cons (.blt .min2 (.cons (.cst (.int 15)) (.cons (.blt .len (.cons (.var 0) .nil)) .nil))) .nil)))) (.cons (.asg (.nm 4) (.call .l_vat (.cons (.var 0) (.cons (.var 1) .nil))))
    (.cons (.asg (.nm 5) (.call .l_wardrobe (.cons (.var 4) (.cons (.cst (.int 6)) .nil))))
    (.cons (.asg (.nm 2) (.blt .tuple (.cons (.fl (.comp [6] (.nm 6) (.rng (.call .l_under (.cons (.var 4) (.cons (.cst (.int 7)) .nil)))) (.cst (.bl true)) (.call .l_fact (.cons (.var 4) (.cons (.var 5) .nil))))) .nil)))
    (.cons (.asg (.nm 3) (.call .l_text (.cons (.var 5) (.cons (.var 2) .nil))))
    (.cons (.ifs (.or (.cmp .ne (.call .facts_text (.cons (.var 5) (.cons (.var 2) .nil))) (.var 3)) (.cmp .ne (.call .read_facts (.cons (.var 3) .nil)) (.tup (.cons (.var 5) (.cons (.var 2) .nil))))) (.cons (.ret (.cst (.bl false)))
    .nil) .nil)
    (.cons (.ifs (.cmp .ne (.err (.call .facts_text (.cons (.var 5) (.cons (.tup (.cons (.var 3) .nil)) .nil)))) (.cst (.str "facts value"))) (.cons (.ret (.cst (.bl false)))
    .nil) .nil)
    (.cons (.ifs (.cmp .ne (.err (.call .facts_text (.cons (.var 3) (.cons (.cst .non) .nil)))) (.cst (.str "wardrobe value"))) (.cons (.ret (.cst (.bl false)))
    .nil) .nil)
    .nil))))))))
    (.cons (.asg (.nm 2) (.tup (.cons (.tup (.cons (.cst (.str "sum")) (.cons (.tup (.cons (.cst (.int 0)) (.cons (.cst (.int 2)) (.cons (.cst (.int 5)) .nil)))) (.cons (.cst (.int 0)) (.cons (.bin .pow (.cst (.int 10)) (.cst (.int 6))) .nil))))) (.cons (.tup (.cons (.cst (.str "wider")) (.cons (.tup (.cons (.cst (.int 5)) .nil)) (.cons (.tup (.cons (.cst (.int 0)) (.cons (.cst (.int 1)) (.cons (.cst (.int 2)) (.cons (.cst (.int 3)) (.cons (.cst (.int 4)) .nil)))))) .nil)))) (.cons (.tup (.cons (.cst (.str "sum")) (.cons (.tup (.cons (.cst (.int 3)) .nil)) (.cons (.bin .pow (.cst (.int 10)) (.cst (.int 6))) (.cons (.cst .non) .nil))))) .nil)))))
    (.cons (.asg (.nm 3) (.cst (.str "wardrobe 1000000 3 3\nsum 0+2+5 0 1000000\nwider 5 0+1+2+3+4\nsum 3 1000000 -")))
    (.cons (.ret (.and (.cmp .eq (.call .facts_text (.cons (.tup (.cons (.bin .pow (.cst (.int 10)) (.cst (.int 6))) (.cons (.cst (.int 3)) (.cons (.cst (.int 3)) .nil)))) (.cons (.var 2) .nil))) (.var 3)) (.cmp .eq (.call .read_facts (.cons (.var 3) .nil)) (.tup (.cons (.tup (.cons (.bin .pow (.cst (.int 10)) (.cst (.int 6))) (.cons (.cst (.int 3)) (.cons (.cst (.int 3)) .nil)))) (.cons (.var 2) .nil))))))
    .nil)))), true, none⟩
def d_l_read_so : PDef := ⟨1, 2,
    (.cons .bad
    .nil), true, none⟩
def d_l_spoilt : PDef := ⟨2, 11,
    (.cons (.par [8, 9] (.cons (.call .l_under (.cons (.var 0) (.cons (.bin .add (.blt .len (.cons (.var 1) .nil)) (.cst (.int 1))) .nil))) (.cons (.call .l_under (.cons (.var 0) (.cons (.cst (.int 7)) .nil))) .nil)))
    (.cons (.ifs (.cmp .lt (.var 9) (.cst (.int 2))) (.cons (.asg (.nm 10) (.fl (.disp (.cons (.cst (.str "")) (.cons (.cst (.str " ")) (.cons (.cst (.str "0")) (.cons (.cst (.str "1")) (.cons (.cst (.str "-")) (.cons (.cst (.str "+")) (.cons (.cst (.str "6")) (.cons (.cst (.str "\n")) (.cons (.cst (.str "sum 0 1 -\n")) (.cons (.cst (.str "wider 0 1\n")) .nil)))))))))))))
    (.cons (.ret (.bin .add (.bin .add (.slt (.var 1) (.var 8)) (.call .l_some (.cons (.var 0) (.cons (.var 10) .nil)))) (.slf (.var 1) (.bin .add (.var 8) (.var 9)))))
    .nil)) .nil)
    (.cons (.asg (.nm 2) (.mth .split (.var 1) (.cons (.cst (.str "\n")) .nil)))
    (.cons (.asg (.nm 3) (.call .l_under (.cons (.var 0) (.cons (.blt .len (.cons (.var 2) .nil)) .nil))))
    (.cons (.ifs (.cmp .eq (.var 9) (.cst (.int 2))) (.cons (.ret (.mth .join (.cst (.str "\n")) (.cons (.bin .add (.slt (.var 2) (.var 3)) (.slf (.var 2) (.bin .add (.var 3) (.cst (.int 1))))) .nil)))
    .nil) .nil)
    (.cons (.ifs (.cmp .eq (.var 9) (.cst (.int 3))) (.cons (.ret (.mth .join (.cst (.str "\n")) (.cons (.bin .add (.slt (.var 2) (.bin .add (.var 3) (.cst (.int 1)))) (.slf (.var 2) (.var 3))) .nil)))
    .nil) .nil)
    (.cons (.ifs (.cmp .eq (.var 9) (.cst (.int 4))) (.cons (.ret (.mth .join (.cst (.str "\n")) (.cons (.bin .add (.slf (.var 2) (.var 3)) (.slt (.var 2) (.var 3))) .nil)))
    .nil) .nil)
    (.cons (.asg (.nm 4) (.mth .split (.idx (.var 2) (.var 3)) (.cons (.cst (.str " ")) .nil)))
    (.cons (.asg (.nm 5) (.call .l_under (.cons (.var 0) (.cons (.blt .len (.cons (.var 4) .nil)) .nil))))
    (.cons (.asg (.nm 6) (.fl (.disp (.cons (.cst (.str "sum")) (.cons (.cst (.str "wider")) (.cons (.cst (.str "wardrobe")) (.cons (.cst (.str "0")) (.cons (.cst (.str "07")) (.cons (.cst (.str "1000001")) (.cons (.cst (.str "-")) (.cons (.cst (.str "0+1")) (.cons (.cst (.str "1+0")) (.cons (.cst (.str "0+0")) (.cons (.cst (.str "+")) (.cons (.cst (.str "5")) (.cons (.cst (.str "6")) (.cons (.cst (.str "")) .nil)))))))))))))))))
    (.cons (.asg (.nm 7) (.mth .join (.cst (.str " ")) (.cons (.bin .add (.bin .add (.slt (.var 4) (.var 5)) (.fl (.disp (.cons (.call .l_some (.cons (.var 0) (.cons (.var 6) .nil))) .nil)))) (.slf (.var 4) (.bin .add (.var 5) (.cst (.int 1))))) .nil)))
    (.cons (.ret (.mth .join (.cst (.str "\n")) (.cons (.bin .add (.bin .add (.slt (.var 2) (.var 3)) (.fl (.disp (.cons (.var 7) .nil)))) (.slf (.var 2) (.bin .add (.var 3) (.cst (.int 1))))) .nil)))
    .nil)))))))))))), true, none⟩
def d_l_number : PDef := ⟨1, 2,
    (.cons (.ifs (.or (.not (.chain .le .le (.cst (.int 1)) (.blt .len (.cons (.var 0) .nil)) (.cst (.int 7)))) (.cmp .ne (.fl (.comp [1] (.nm 1) (.val (.var 0)) (.cmp .notin (.var 1) (.cst (.str "0123456789"))) (.var 1))) (.fl (.disp .nil)))) (.cons (.ret (.cst .non))
    .nil) .nil)
    (.cons (.ret (.ife (.or (.cmp .eq (.var 0) (.cst (.str "0"))) (.cmp .ne (.idx (.var 0) (.cst (.int 0))) (.cst (.str "0")))) (.blt .int (.cons (.var 0) .nil)) (.cst .non)))
    .nil)), true, none⟩
def d_l_lot_of : PDef := ⟨1, 2,
    (.cons (.ret (.blt .tuple (.cons (.fl (.comp [1] (.nm 1) (.val (.mth .split (.var 0) (.cons (.cst (.str "+")) .nil))) (.cst (.bl true)) (.call .l_number (.cons (.var 1) .nil)))) .nil)))
    .nil), true, none⟩
def d_l_line_of : PDef := ⟨1, 6,
    (.cons (.asg (.nm 1) (.mth .split (.var 0) (.cons (.cst (.str " ")) .nil)))
    (.cons (.ifs (.and (.cmp .eq (.idx (.var 1) (.cst (.int 0))) (.cst (.str "wardrobe"))) (.cmp .eq (.blt .len (.cons (.var 1) .nil)) (.cst (.int 4)))) (.cons (.asg (.nm 3) (.blt .tuple (.cons (.fl (.comp [5] (.nm 5) (.val (.slf (.var 1) (.cst (.int 1)))) (.cst (.bl true)) (.call .l_number (.cons (.var 5) .nil)))) .nil)))
    (.cons (.ifs (.and (.call .l_is_whole (.cons (.idx (.var 3) (.cst (.int 0))) (.cons (.cst (.int 1)) (.cons (.bin .pow (.cst (.int 10)) (.cst (.int 6))) .nil)))) (.call .l_is_whole (.cons (.idx (.var 3) (.cst (.int 1))) (.cons (.cst (.int 1)) (.cons (.cst (.int 3)) .nil))))) (.cons (.ret (.ife (.call .l_is_whole (.cons (.idx (.var 3) (.cst (.int 2))) (.cons (.cst (.int 1)) (.cons (.cst (.int 3)) .nil)))) (.var 3) (.cst .non)))
    .nil) .nil)
    (.cons (.ret (.cst .non))
    .nil))) .nil)
    (.cons (.asg (.nm 2) (.cst .non))
    (.cons (.ifs (.and (.cmp .eq (.idx (.var 1) (.cst (.int 0))) (.cst (.str "wider"))) (.cmp .eq (.blt .len (.cons (.var 1) .nil)) (.cst (.int 3)))) (.cons (.asg (.nm 2) (.tup (.cons (.cst (.str "wider")) (.cons (.call .l_lot_of (.cons (.idx (.var 1) (.cst (.int 1))) .nil)) (.cons (.call .l_lot_of (.cons (.idx (.var 1) (.cst (.int 2))) .nil)) .nil)))))
    .nil) .nil)
    (.cons (.ifs (.and (.cmp .eq (.idx (.var 1) (.cst (.int 0))) (.cst (.str "sum"))) (.cmp .eq (.blt .len (.cons (.var 1) .nil)) (.cst (.int 4)))) (.cons (.asg (.nm 4) (.call .l_number (.cons (.idx (.var 1) (.cst (.int 3))) .nil)))
    (.cons (.ifs (.or (.cmp .isnot (.var 4) (.cst .non)) (.cmp .eq (.idx (.var 1) (.cst (.int 3))) (.cst (.str "-")))) (.cons (.asg (.nm 2) (.tup (.cons (.cst (.str "sum")) (.cons (.call .l_lot_of (.cons (.idx (.var 1) (.cst (.int 1))) .nil)) (.cons (.call .l_number (.cons (.idx (.var 1) (.cst (.int 2))) .nil)) (.cons (.var 4) .nil))))))
    .nil) .nil)
    .nil)) .nil)
    (.cons (.ret (.ife (.call .l_is_fact (.cons (.cst (.int 6)) (.cons (.var 2) .nil))) (.var 2) (.cst .non)))
    .nil)))))), true, none⟩
def d_l_due_k12 : PDef := ⟨1, 3,
    (.cons (.ifs (.not (.isi (.var 0) .str)) (.cons (.ret (.tup (.cons (.cst (.str "text")) (.cons (.cst (.int 0)) .nil))))
    .nil) .nil)
    (.cons (.asg (.nm 1) (.fl (.comp [2] (.nm 2) (.val (.mth .split (.var 0) (.cons (.cst (.str "\n")) .nil))) (.cst (.bl true)) (.call .l_line_of (.cons (.var 2) .nil)))))
    (.cons (.ifs (.cmp .inn (.cst .non) (.var 1)) (.cons (.ret (.tup (.cons (.cst (.str "text")) (.cons (.bin .add (.mth .index (.var 1) (.cons (.cst .non) .nil)) (.cst (.int 1))) .nil))))
    .nil) .nil)
    (.cons (.ifs (.or (.not (.call .l_is_whole (.cons (.idx (.idx (.var 1) (.cst (.int 0))) (.cst (.int 0))) (.cons (.cst (.int 1)) (.cons (.bin .pow (.cst (.int 10)) (.cst (.int 6))) .nil))))) (.not (.call .l_are_facts (.cons (.idx (.var 1) (.cst (.int 0))) (.cons (.blt .tuple (.cons (.slf (.var 1) (.cst (.int 1))) .nil)) .nil))))) (.cons (.ret (.tup (.cons (.cst (.str "text")) (.cons (.bin .add (.blt .len (.cons (.var 1) .nil)) (.cst (.int 1))) .nil))))
    .nil) .nil)
    (.cons (.ret (.tup (.cons (.idx (.var 1) (.cst (.int 0))) (.cons (.blt .tuple (.cons (.slf (.var 1) (.cst (.int 1))) .nil)) .nil))))
    .nil))))), true, none⟩
def d_law_k12 : PDef := ⟨1, 13,
    (.cons (.for_ (.nm 1) (.rng (.blt .max2 (.cons (.cst (.int 6)) (.cons (.blt .min2 (.cons (.cst (.int 14)) (.cons (.blt .len (.cons (.var 0) .nil)) .nil))) .nil)))) (.cons (.asg (.nm 3) (.call .l_vat (.cons (.var 0) (.cons (.var 1) .nil))))
    (.cons (.asg (.nm 4) (.call .l_wardrobe (.cons (.var 3) (.cons (.cst (.int 6)) .nil))))
    (.cons (.asg (.nm 5) (.blt .tuple (.cons (.fl (.comp [11] (.nm 11) (.rng (.call .l_under (.cons (.var 3) (.cons (.cst (.int 6)) .nil)))) (.cst (.bl true)) (.call .l_fact (.cons (.var 3) (.cons (.var 4) .nil))))) .nil)))
    (.cons (.asg (.nm 6) (.call .l_text (.cons (.var 4) (.cons (.var 5) .nil))))
    (.cons (.for_ (.nm 7) (.val (.fl (.disp (.cons (.bin .add (.var 6) (.cst (.str "\n"))) (.cons (.bin .add (.cst (.str " ")) (.var 6)) (.cons (.call .l_odd (.cons (.var 3) (.cons (.cst (.int 2)) .nil))) (.cons (.fl (.disp (.cons (.var 6) .nil))) (.cons (.mth .upper (.var 6) .nil) (.cons (.bin .add (.var 6) (.cst (.str " "))) (.cons (.bin .add (.var 6) (.cst (.str "\nsum 0 1 -"))) .nil)))))))))) (.cons (.ifs (.cmp .ne (.call .l_read_so (.cons (.var 7) .nil)) (.call .l_due_k12 (.cons (.var 7) .nil))) (.cons (.ret (.cst (.bl false)))
    .nil) .nil)
    .nil))
    (.cons (.for_ (.nm 8) (.rng (.cst (.int 9))) (.cons (.asg (.nm 6) (.call .l_spoilt (.cons (.var 3) (.cons (.var 6) .nil))))
    (.cons (.ifs (.cmp .ne (.call .l_read_so (.cons (.var 6) .nil)) (.call .l_due_k12 (.cons (.var 6) .nil))) (.cons (.ret (.cst (.bl false)))
    .nil) .nil)
    .nil)))
    .nil)))))))
    (.cons (.asg (.tp [(.nm 9), (.nm 10)]) (.tup (.cons (.cst (.str "wardrobe 10 2 1")) (.cons (.cst (.str "\nsum 0 1 2")) .nil))))
    (.cons (.asg (.nm 2) (.fl (.disp (.cons (.tup (.cons (.cst (.str "")) (.cons (.cst (.int 1)) .nil))) (.cons (.tup (.cons (.bin .add (.var 9) (.cst (.str "\n"))) (.cons (.cst (.int 2)) .nil))) (.cons (.tup (.cons (.slf (.var 10) (.cst (.int 1))) (.cons (.cst (.int 2)) .nil))) (.cons (.tup (.cons (.bin .add (.var 9) (.cst (.str "\nsum 3 0 1"))) (.cons (.cst (.int 3)) .nil))) (.cons (.tup (.cons (.bin .add (.var 9) (.cst (.str "\nsum 6 0 1"))) (.cons (.cst (.int 2)) .nil))) (.cons (.tup (.cons (.bin .add (.var 9) (.bin .mul (.var 10) (.cst (.int 7)))) (.cons (.cst (.int 9)) .nil))) .nil)))))))))
    (.cons (.asg (.nm 2) (.bin .add (.var 2) (.fl (.disp (.cons (.tup (.cons (.bin .add (.var 9) (.cst (.str "\nsum 0 2 1"))) (.cons (.cst (.int 2)) .nil))) (.cons (.tup (.cons (.bin .add (.var 9) (.cst (.str "\nsum 1+0 2 3"))) (.cons (.cst (.int 2)) .nil))) (.cons (.tup (.cons (.bin .add (.var 9) (.cst (.str "\nwider 0 0"))) (.cons (.cst (.int 2)) .nil))) (.cons (.tup (.cons (.bin .add (.var 9) (.cst (.str "\nsum 0 01 2"))) (.cons (.cst (.int 2)) .nil))) .nil))))))))
    (.cons (.asg (.nm 2) (.bin .add (.var 2) (.fl (.disp (.cons (.tup (.cons (.bin .add (.bin .add (.var 9) (.cst (.str "\n"))) (.var 9)) (.cons (.cst (.int 3)) .nil))) (.cons (.tup (.cons (.cst (.str "wardrobe 10 2 4")) (.cons (.cst (.int 1)) .nil))) (.cons (.tup (.cons (.bin .add (.var 9) (.cst (.str "\nsum 0 - 1"))) (.cons (.cst (.int 2)) .nil))) (.cons (.tup (.cons (.bin .add (.var 9) (.cst (.str "\nwider 0 1 2"))) (.cons (.cst (.int 2)) .nil))) .nil))))))))
    (.cons (.ifs (.cmp .ne (.fl (.comp [6, 12] (.tp [(.nm 6), (.nm 12)]) (.val (.var 2)) (.cmp .ne (.call .l_read_so (.cons (.var 6) .nil)) (.tup (.cons (.cst (.str "text")) (.cons (.var 12) .nil)))) (.var 12))) (.fl (.disp .nil))) (.cons (.ret (.cst (.bl false)))
    .nil) .nil)
    (.cons (.ifs (.cmp .ne (.call .l_read_so (.cons (.cst .non) .nil)) (.tup (.cons (.cst (.str "text")) (.cons (.cst (.int 0)) .nil)))) (.cons (.ret (.cst (.bl false)))
    .nil) .nil)
    (.cons (.ret (.and (.cmp .eq (.call .l_read_so (.cons (.bin .add (.var 9) (.bin .mul (.var 10) (.cst (.int 6)))) .nil)) (.tup (.cons (.tup (.cons (.cst (.int 10)) (.cons (.cst (.int 2)) (.cons (.cst (.int 1)) .nil)))) (.cons (.bin .mul (.tup (.cons (.tup (.cons (.cst (.str "sum")) (.cons (.tup (.cons (.cst (.int 0)) .nil)) (.cons (.cst (.int 1)) (.cons (.cst (.int 2)) .nil))))) .nil)) (.cst (.int 6))) .nil)))) (.cmp .eq (.call .l_read_so (.cons (.var 9) .nil)) (.tup (.cons (.tup (.cons (.cst (.int 10)) (.cons (.cst (.int 2)) (.cons (.cst (.int 1)) .nil)))) (.cons (.tup .nil) .nil))))))
    .nil)))))))), true, none⟩
def d_turned_lot : PDef := ⟨2, 5,
    (.cons (.asg (.tp [(.nm 2), (.nm 3)]) (.slf (.var 0) (.cst (.int 1))))
    (.cons (.ret (.blt .tuple (.cons (.blt .sorted (.cons (.fl (.comp [4] (.nm 4) (.val (.var 1)) (.cst (.bl true)) (.ife (.cmp .lt (.var 4) (.var 2)) (.bin .sub (.bin .sub (.var 2) (.cst (.int 1))) (.var 4)) (.bin .sub (.bin .sub (.bin .add (.bin .mul (.cst (.int 2)) (.var 2)) (.var 3)) (.cst (.int 1))) (.var 4))))) .nil)) .nil)))
    .nil)), true, none⟩
def d_turned_fact : PDef := ⟨2, 2,
    (.cons (.ifs (.cmp .eq (.idx (.var 1) (.cst (.int 0))) (.cst (.str "wider"))) (.cons (.ret (.tup (.cons (.cst (.str "wider")) (.cons (.call .turned_lot (.cons (.var 0) (.cons (.idx (.var 1) (.cst (.int 1))) .nil))) (.cons (.call .turned_lot (.cons (.var 0) (.cons (.idx (.var 1) (.cst (.int 2))) .nil))) .nil)))))
    .nil) .nil)
    (.cons (.ret (.bin .add (.tup (.cons (.cst (.str "sum")) (.cons (.call .turned_lot (.cons (.var 0) (.cons (.idx (.var 1) (.cst (.int 1))) .nil))) .nil))) (.slf (.var 1) (.cst (.int 2)))))
    .nil)), true, none⟩
def d_l_tried : PDef := ⟨3, 3,
    (.cons .bad
    .nil), true, none⟩
def d_l_book : PDef := ⟨2, 2,
    (.cons .bad
    .nil), true, none⟩
def d_l_turned : PDef := ⟨2, 7,
    (.cons .bad
    (.cons (.for_ (.nm 3) (.val (.call .l_rails (.cons (.var 0) .nil))) (.cons (.for_ (.tp [(.nm 5), (.nm 6)]) (.enum (.var 3)) (.cons (.setI (.var 2) (.var 6) (.idx (.var 3) (.bin .sub (.bin .sub (.blt .len (.cons (.var 3) .nil)) (.cst (.int 1))) (.var 5))))
    .nil))
    .nil))
    (.cons (.asg (.nm 4) (.blt .tuple (.cons (.blt .sorted (.cons (.fl (.comp [6] (.nm 6) (.val (.idx (.var 1) (.cst (.int 1)))) (.cst (.bl true)) (.idx (.var 2) (.var 6)))) .nil)) .nil)))
    (.cons (.ifs (.cmp .eq (.idx (.var 1) (.cst (.int 0))) (.cst (.str "sum"))) (.cons (.ret (.bin .add (.tup (.cons (.cst (.str "sum")) (.cons (.var 4) .nil))) (.slf (.var 1) (.cst (.int 2)))))
    .nil) .nil)
    (.cons (.ret (.tup (.cons (.cst (.str "wider")) (.cons (.var 4) (.cons (.blt .tuple (.cons (.blt .sorted (.cons (.fl (.comp [6] (.nm 6) (.val (.idx (.var 1) (.cst (.int 2)))) (.cst (.bl true)) (.idx (.var 2) (.var 6)))) .nil)) .nil)) .nil)))))
    .nil))))), true, none⟩
def d_l_due_k13 : PDef := ⟨2, 2,
    (.cons (.ret (.ife (.call .l_are_facts (.cons (.var 0) (.cons (.var 1) .nil))) (.var 1) (.cst (.str "facts"))))
    .nil), true, none⟩
def d_l_shown : PDef := ⟨3, 5,
    (.cons .bad
    (.cons (.ifs (.cmp .ne (.blt .str (.cons (.var 0) .nil)) (.call .l_text (.cons (.var 1) (.cons (.var 2) .nil)))) (.cons (.ret (.cst (.bl false)))
    .nil) .nil)
    (.cons (.ifs (.or (.cmp .ne (.fl (.comp [4] (.nm 4) (.rng (.blt .len (.cons (.var 2) .nil))) (.cst (.bl true)) (.idx (.var 0) (.var 4)))) (.fl (.ofl (.var 2)))) (.cmp .eq (.var 0) (.var 2))) (.cons (.ret (.cst (.bl false)))
    .nil) .nil)
    (.cons (.for_ (.nm 3) (.val (.bin .add (.fl (.ofl (.var 2))) (.fl (.disp (.cons (.tup (.cons (.cst (.str "sum")) (.cons (.tup (.cons (.cst (.int 0)) .nil)) (.cons (.cst (.int 9)) (.cons (.cst (.int 9)) .nil))))) (.cons (.cst .non) (.cons (.var 2) .nil))))))) (.cons (.ifs (.not (.call .l_truly (.cons (.cmp .inn (.var 3) (.var 0)) (.cons (.and (.cmp .inn (.var 3) (.var 2)) (.call .l_is_fact (.cons (.cst (.int 6)) (.cons (.var 3) .nil)))) .nil)))) (.cons (.ret (.cst (.bl false)))
    .nil) .nil)
    .nil))
    (.cons .bad
    .nil))))), true, none⟩
def d_l_made_right : PDef := ⟨4, 13,
    (.cons (.par [8, 9] (.cons (.call .l_book (.cons (.var 1) (.cons (.var 2) .nil))) (.cons (.call .l_bent (.cons (.var 0) (.cons (.call .l_fact (.cons (.var 0) (.cons (.var 1) .nil))) .nil))) .nil)))
    (.cons (.ifs (.cmp .ne (.call .l_tried (.cons (.cst (.int 0)) (.cons (.var 8) (.cons (.var 9) .nil)))) (.call .l_due_k13 (.cons (.var 1) (.cons (.bin .add (.var 2) (.tup (.cons (.var 9) .nil))) .nil)))) (.cons (.ret (.cst (.bl false)))
    .nil) .nil)
    (.cons (.asg (.nm 4) (.bin .add (.var 2) (.blt .tuple (.cons (.fl (.comp [12] (.nm 12) (.val (.var 3)) (.cmp .notin (.var 12) (.var 2)) (.var 12))) .nil))))
    (.cons .bad
    (.cons .bad
    (.cons (.par [10, 11] (.cons (.var 8) (.cons (.call .l_due_k13 (.cons (.var 1) (.cons (.bin .add (.var 2) (.tup (.cons (.var 9) .nil))) .nil))) .nil)))
    (.cons (.asg (.nm 5) (.ife (.cmp .eq (.var 11) (.cst (.str "facts"))) (.var 2) (.var 11)))
    (.cons .bad
    (.cons (.ifs (.cmp .eq (.var 5) (.tup .nil)) (.cons (.ret (.cmp .eq (.call .l_tried (.cons (.cst (.int 4)) (.cons (.var 8) (.cons (.cst (.int 0)) .nil)))) (.cst (.str "index"))))
    .nil) .nil)
    (.cons (.asg (.nm 6) (.call .l_under (.cons (.var 0) (.cons (.blt .len (.cons (.var 5) .nil)) .nil))))
    (.cons (.asg (.nm 7) (.bin .add (.slt (.var 5) (.var 6)) (.slf (.var 5) (.bin .add (.var 6) (.cst (.int 1))))))
    (.cons .bad
    (.cons .bad
    .nil))))))))))))), true, none⟩
def d_l_by_hand_k13 : PDef := ⟨0, 3,
    (.cons .bad
    (.cons .bad
    (.cons .bad
    (.cons .bad
    (.cons (.asg (.nm 1) (.call .l_book (.cons (.tup (.cons (.cst (.int 9)) (.cons (.cst (.int 1)) (.cons (.cst (.int 1)) .nil)))) (.cons (.tup (.cons (.tup (.cons (.cst (.str "sum")) (.cons (.tup (.cons (.cst (.int 0)) .nil)) (.cons (.cst (.int 0)) (.cons (.cst .non) .nil))))) .nil)) .nil))))
    (.cons .bad
    (.cons (.asg (.nm 2) (.call .l_book (.cons (.tup (.cons (.cst (.int 9)) (.cons (.cst (.int 1)) (.cons (.cst (.int 1)) .nil)))) (.cons (.bin .mul (.tup (.cons (.tup (.cons (.cst (.str "sum")) (.cons (.tup (.cons (.cst (.int 0)) .nil)) (.cons (.cst (.int 0)) (.cons (.cst .non) .nil))))) .nil)) (.cst (.int 6))) .nil))))
    (.cons .bad
    .nil)))))))), true, none⟩
def d_law_k13 : PDef := ⟨1, 13,
    (.cons (.for_ (.nm 1) (.rng (.blt .max2 (.cons (.cst (.int 5)) (.cons (.blt .min2 (.cons (.cst (.int 11)) (.cons (.blt .len (.cons (.var 0) .nil)) .nil))) .nil)))) (.cons (.asg (.nm 2) (.call .l_vat (.cons (.var 0) (.cons (.var 1) .nil))))
    (.cons (.asg (.nm 3) (.call .l_wardrobe (.cons (.var 2) (.cons (.cst (.int 3)) .nil))))
    (.cons (.par [8, 9] (.cons (.call .l_facts (.cons (.var 2) (.cons (.var 3) (.cons (.cst (.int 5)) .nil)))) (.cons (.call .l_facts (.cons (.var 2) (.cons (.var 3) (.cons (.cst (.int 3)) .nil)))) .nil)))
    (.cons (.asg (.tp [(.nm 10), (.nm 11)]) (.tup (.cons (.call .l_book (.cons (.var 3) (.cons (.var 8) .nil))) (.cons (.call .l_book (.cons (.var 3) (.cons (.var 9) .nil))) .nil))))
    (.cons (.asg (.nm 4) (.call .l_shelves (.cons (.var 2) (.cons (.var 3) .nil))))
    (.cons (.ifs (.or (.not (.call .l_shown (.cons (.var 10) (.cons (.var 3) (.cons (.var 8) .nil))))) (.cmp .ne (.cmp .eq (.var 10) (.var 11)) (.cmp .eq (.var 8) (.var 9)))) (.cons (.ret (.cst (.bl false)))
    .nil) .nil)
    (.cons (.asg (.nm 5) (.call .l_can (.cons (.call .l_lines (.cons (.var 3) (.cons (.var 8) .nil))) .nil)))
    (.cons (.asg (.nm 6) (.ife (.var 5) (.call .how (.cons (.var 3) (.cons (.var 8) (.cons (.var 4) .nil)))) (.cst (.str "impossible"))))
    (.cons (.ifs (.or (.cmp .ne (.call .l_tried (.cons (.cst (.int 7)) (.cons (.var 10) (.cons (.var 4) .nil)))) (.var 6)) (.cmp .ne (.call .l_tried (.cons (.cst (.int 7)) (.cons (.var 10) (.cons (.cst .non) .nil)))) (.cst (.str "shelves")))) (.cons (.ret (.cst (.bl false)))
    .nil) .nil)
    (.cons .bad
    (.cons .bad
    (.cons (.for_ (.nm 7) (.val (.fl (.disp (.cons (.cst .non) (.cons (.neg (.cst (.int 1))) (.cons (.blt .len (.cons (.var 8) .nil)) (.cons (.cst (.bl true)) .nil))))))) (.cons (.ifs (.cmp .ne (.fl (.comp [12] (.nm 12) (.val (.tup (.cons (.cst (.int 1)) (.cons (.cst (.int 4)) (.cons (.cst (.int 5)) .nil))))) (.cst (.bl true)) (.call .l_tried (.cons (.var 12) (.cons (.var 10) (.cons (.var 7) .nil)))))) (.bin .mul (.fl (.disp (.cons (.cst (.str "index")) .nil))) (.cst (.int 3)))) (.cons (.ret (.cst (.bl false)))
    .nil) .nil)
    .nil))
    (.cons (.ifs (.cmp .ne (.fl (.comp [12] (.nm 12) (.val (.tup (.cons (.cst (.int 0)) (.cons (.cst (.int 3)) .nil)))) (.cst (.bl true)) (.call .l_tried (.cons (.var 12) (.cons (.var 10) (.cons (.cst .non) .nil)))))) (.bin .mul (.fl (.disp (.cons (.cst (.str "facts")) .nil))) (.cst (.int 2)))) (.cons (.ret (.cst (.bl false)))
    .nil) .nil)
    (.cons (.ifs (.not (.call .l_made_right (.cons (.var 2) (.cons (.var 3) (.cons (.var 8) (.cons (.var 9) .nil)))))) (.cons (.ret (.cst (.bl false)))
    .nil) .nil)
    .nil)))))))))))))))
    (.cons (.ret (.call .l_by_hand_k13 .nil))
    .nil)), true, none⟩
def d__wall : PDef := ⟨1, 1,
    (.cons (.whl (.cst (.bl true)) (.cons .pass
    .nil))
    .nil), true, none⟩
def d_l_tried_k14 : PDef := ⟨1, 2,
    (.cons .bad
    .nil), true, none⟩
def d_l_more : PDef := ⟨2, 2,
    (.cons (.aug 0 .add (.var 1))
    .nil), true, none⟩
def d_l_call : PDef := ⟨2, 2,
    (.cons .bad
    .nil), true, none⟩
def d_l_move_k14 : PDef := ⟨2, 2,
    (.cons .bad
    .nil), true, none⟩
def d_l_learn : PDef := ⟨2, 2,
    (.cons .bad
    .nil), true, none⟩
def d_l_shown_k14 : PDef := ⟨4, 11,
    (.cons (.asg (.tp [(.nm 7), (.nm 8)]) (.idx (.var 3) (.neg (.cst (.int 1)))))
    (.cons .bad
    (.cons .bad
    (.cons (.ifs (.cmp .ne (.fl (.comp [10] (.nm 10) (.rng (.blt .len (.cons (.var 7) .nil))) (.cst (.bl true)) (.idx (.var 1) (.var 10)))) (.fl (.ofl (.var 7)))) (.cons (.ret (.cst (.bl false)))
    .nil) .nil)
    (.cons (.ifs (.not (.call .l_truly (.cons (.blt .bool (.cons (.var 1) .nil)) (.cons (.cmp .eq (.var 8) (.slf (.var 2) (.cst (.int 1)))) .nil)))) (.cons (.ret (.cst (.bl false)))
    .nil) .nil)
    (.cons (.for_ (.nm 4) (.val (.bin .add (.fl (.ofl (.var 7))) (.fl (.disp (.cons (.tup (.cons (.cst (.str "sum")) (.cons (.tup (.cons (.cst (.int 0)) .nil)) (.cons (.cst (.int 9)) (.cons (.cst (.int 9)) .nil))))) (.cons (.cst .non) (.cons (.cst (.int 0)) .nil))))))) (.cons (.ifs (.not (.call .l_truly (.cons (.cmp .inn (.var 4) (.var 1)) (.cons (.cmp .inn (.var 4) (.var 7)) .nil)))) (.cons (.ret (.cst (.bl false)))
    .nil) .nil)
    .nil))
    (.cons (.for_ (.nm 5) (.val (.fl (.disp (.cons (.neg (.cst (.int 1))) (.cons (.blt .len (.cons (.var 7) .nil)) (.cons (.cst .non) (.cons (.cst (.bl true)) .nil))))))) (.cons .bad
    .nil))
    (.cons (.asg (.nm 6) (.idx (.call .l_shelves (.cons (.var 0) (.cons (.var 2) .nil))) (.cst (.int 0))))
    (.cons .bad
    (.cons .bad
    .nil)))))))))), true, none⟩
def d_l_drawn_move : PDef := ⟨2, 4,
    (.cons (.par [2, 3] (.cons (.call .l_some (.cons (.var 0) (.cons (.fl (.disp (.cons (.cst (.str "push")) (.cons (.cst (.str "drive")) .nil)))) .nil))) (.cons (.call .l_under (.cons (.var 0) (.cons (.bin .add (.idx (.var 1) (.cst (.int 1))) (.idx (.var 1) (.cst (.int 2)))) .nil))) .nil)))
    (.cons (.ret (.tup (.cons (.var 2) (.cons (.var 3) (.cons (.call .l_some (.cons (.var 0) (.cons (.fl (.disp (.cons (.cst (.str "left")) (.cons (.cst (.str "right")) .nil)))) .nil))) .nil)))))
    .nil)), true, none⟩
def d_l_turn : PDef := ⟨4, 16,
    (.cons (.asg (.tp [(.nm 5), (.tp [(.nm 12), (.nm 13)])]) (.tup (.cons (.call .l_under (.cons (.var 0) (.cons (.cst (.int 8)) .nil))) (.cons (.idx (.var 3) (.neg (.cst (.int 1)))) .nil))))
    (.cons (.ifs (.cmp .eq (.var 5) (.cst (.int 0))) (.cons (.asg (.nm 6) (.ife (.cmp .gt (.blt .len (.cons (.var 3) .nil)) (.cst (.int 1))) (.cst .non) (.cst (.str "undo"))))
    (.cons (.asg (.nm 7) (.ife (.cmp .gt (.blt .len (.cons (.var 3) .nil)) (.cst (.int 1))) (.slt (.var 3) (.neg (.cst (.int 1)))) (.var 3)))
    (.cons .bad
    .nil))) .nil)
    (.cons (.ifs (.cmp .eq (.var 5) (.cst (.int 1))) (.cons (.asg (.nm 8) (.fl (.disp (.cons (.call .l_learn (.cons (.var 1) (.cons (.cst .non) .nil))) (.cons (.call .l_call (.cons (.var 1) (.cons (.fl (.disp (.cons (.tup (.cons (.cst (.str "push")) (.cons (.cst (.int 0)) (.cons (.cst (.str "left")) .nil)))) .nil))) .nil))) (.cons (.call .l_move_k14 (.cons (.var 1) (.cons (.tup (.cons (.cst (.str "push")) (.cons (.cst (.int 9)) (.cons (.cst (.str "left")) .nil)))) .nil))) .nil))))))
    (.cons (.ret (.ife (.cmp .eq (.var 8) (.fl (.disp (.cons (.cst (.str "fact")) (.cons (.cst (.str "moves")) (.cons (.cst (.str "moves")) .nil)))))) (.var 3) (.cst .non)))
    .nil)) .nil)
    (.cons (.ifs (.cmp .lt (.var 5) (.cst (.int 4))) (.cons (.asg (.nm 9) (.call .l_fact (.cons (.var 0) (.cons (.var 2) .nil))))
    (.cons (.par [14, 15] (.cons (.bin .add (.var 12) (.tup (.cons (.var 9) .nil))) (.cons (.call .l_learn (.cons (.var 1) (.cons (.var 9) .nil))) .nil)))
    (.cons (.ifs (.cmp .gt (.blt .len (.cons (.var 14) .nil)) (.cst (.int 6))) (.cons (.ret (.ife (.cmp .eq (.var 15) (.cst (.str "many6"))) (.var 3) (.cst .non)))
    .nil) .nil)
    (.cons (.ifs (.not (.call .l_can (.cons (.call .l_lines (.cons (.var 2) (.cons (.var 14) .nil))) .nil))) (.cons (.ret (.ife (.cmp .eq (.var 15) (.cst (.str "impossible"))) (.var 3) (.cst .non)))
    .nil) .nil)
    (.cons (.ret (.ife (.cmp .eq (.var 15) (.blt .len (.cons (.var 14) .nil))) (.bin .add (.var 3) (.fl (.disp (.cons (.tup (.cons (.var 14) (.cons (.var 13) .nil))) .nil)))) (.cst .non)))
    .nil))))) .nil)
    (.cons (.ifs (.cmp .lt (.var 5) (.cst (.int 6))) (.cons (.asg (.nm 10) (.call .l_drawn_move (.cons (.var 0) (.cons (.var 2) .nil))))
    (.cons (.asg (.nm 11) (.call .after (.cons (.var 2) (.cons (.var 13) (.cons (.tup (.cons (.var 10) .nil)) .nil)))))
    (.cons (.ret (.ife (.cmp .eq (.call .l_move_k14 (.cons (.var 1) (.cons (.var 10) .nil))) (.var 11)) (.bin .add (.var 3) (.fl (.disp (.cons (.tup (.cons (.var 12) (.cons (.var 11) .nil))) .nil)))) (.cst .non)))
    .nil))) .nil)
    (.cons (.asg (.nm 4) (.blt .tuple (.cons (.fl (.comp [10] (.nm 10) (.rng (.call .l_under (.cons (.var 0) (.cons (.cst (.int 5)) .nil)))) (.cst (.bl true)) (.call .l_drawn_move (.cons (.var 0) (.cons (.var 2) .nil))))) .nil)))
    (.cons (.ret (.ife (.cmp .is (.call .l_call (.cons (.var 1) (.cons (.var 4) .nil))) (.cst .non)) (.bin .add (.var 3) (.fl (.disp (.cons (.tup (.cons (.var 12) (.cons (.call .after (.cons (.var 2) (.cons (.var 13) (.cons (.var 4) .nil)))) .nil))) .nil)))) (.cst .non)))
    .nil))))))), true, none⟩
def d_l_by_hand_k14 : PDef := ⟨0, 6,
    (.cons (.asg (.tp [(.nm 2), (.nm 3)]) (.tup (.cons (.tup (.cons (.cst (.int 10)) (.cons (.cst (.int 2)) (.cons (.cst (.int 1)) .nil)))) (.cons (.tup (.cons (.cst (.str "sum")) (.cons (.tup (.cons (.cst (.int 2)) .nil)) (.cons (.cst (.int 0)) (.cons (.cst (.int 4)) .nil))))) .nil))))
    (.cons .bad
    (.cons .bad
    (.cons .bad
    (.cons (.ifs (.blt .bool (.cons (.var 4) .nil)) (.cons (.ret (.cst (.bl false)))
    .nil) .nil)
    (.cons .bad
    (.cons .bad
    (.cons (.asg (.nm 0) (.bin .add (.fl (.comp [1] (.nm 1) (.rng (.cst (.int 4))) (.cst (.bl true)) (.call .l_learn (.cons (.var 4) (.cons (.tup (.cons (.cst (.str "sum")) (.cons (.tup (.cons (.cst (.int 0)) .nil)) (.cons (.cst (.int 0)) (.cons (.cst .non) .nil))))) .nil))))) (.fl (.disp (.cons (.call .l_learn (.cons (.var 4) (.cons (.tup (.cons (.cst (.str "sum")) (.cons (.tup (.cons (.cst (.int 2)) .nil)) (.cons (.cst (.int 9)) (.cons (.cst (.int 9)) .nil))))) .nil))) (.cons (.blt .len (.cons (.var 4) .nil)) .nil))))))
    (.cons .bad
    (.cons (.for_ (.nm 1) (.rng (.cst (.int 8))) (.cons .bad
    .nil))
    (.cons .bad
    (.cons .bad
    (.cons .bad
    .nil))))))))))))), true, none⟩
def d_law_k14 : PDef := ⟨1, 7,
    (.cons (.for_ (.nm 1) (.rng (.blt .max2 (.cons (.cst (.int 4)) (.cons (.blt .min2 (.cons (.cst (.int 9)) (.cons (.blt .len (.cons (.var 0) .nil)) .nil))) .nil)))) (.cons (.asg (.nm 2) (.call .l_vat (.cons (.var 0) (.cons (.var 1) .nil))))
    (.cons (.asg (.nm 3) (.call .l_wardrobe (.cons (.var 2) (.cons (.cst (.int 3)) .nil))))
    (.cons .bad
    (.cons (.for_ (.nm 4) (.rng (.bin .add (.cst (.int 7)) (.call .l_under (.cons (.var 2) (.cons (.cst (.int 6)) .nil))))) (.cons (.asg (.nm 6) (.call .l_turn (.cons (.var 2) (.cons (.var 5) (.cons (.var 3) (.cons (.var 6) .nil))))))
    (.cons (.ifs (.or (.cmp .is (.var 6) (.cst .non)) (.not (.call .l_shown_k14 (.cons (.var 2) (.cons (.var 5) (.cons (.var 3) (.cons (.var 6) .nil))))))) (.cons (.ret (.cst (.bl false)))
    .nil) .nil)
    .nil)))
    (.cons .bad
    .nil))))))
    (.cons (.ret (.call .l_by_hand_k14 .nil))
    .nil)), true, none⟩
def d_l_look : PDef := ⟨1, 1,
    (.cons .bad
    .nil), true, none⟩
def d_l_good : PDef := ⟨1, 1,
    (.cons .bad
    (.cons .bad
    (.cons .bad
    (.cons .bad
    (.cons (.aug 0 .add (.tup (.cons (.tup (.cons (.cst (.str "push")) (.cons (.cst (.int 1)) (.cons (.cst (.str "right")) .nil)))) (.cons (.tup (.cons (.cst (.str "push")) (.cons (.cst (.int 1)) (.cons (.cst (.str "left")) .nil)))) .nil))))
    (.cons .bad
    .nil)))))), true, none⟩
def d_l_bad : PDef := ⟨2, 3,
    (.cons .bad
    (.cons (.ifs (.cmp .eq (.var 1) (.cst (.int 1))) (.cons .bad
    .nil) .nil)
    (.cons (.ifs (.cmp .eq (.var 1) (.cst (.int 2))) (.cons (.for_ (.nm 2) (.rng (.cst (.int 100))) (.cons .bad
    .nil))
    .nil) .nil)
    (.cons (.ifs (.cmp .eq (.var 1) (.cst (.int 3))) (.cons .bad
    .nil) .nil)
    (.cons (.ifs (.cmp .eq (.var 1) (.cst (.int 4))) (.cons .bad
    .nil) .nil)
    (.cons (.aug 0 .add (.tup (.cons (.tup (.cons (.cst (.str "push")) (.cons (.cst (.int 0)) (.cons (.cst (.str "up")) .nil)))) .nil)))
    .nil)))))), true, none⟩
def d_l_ended : PDef := ⟨1, 2,
    (.cons (.asg (.nm 1) (.cst (.str "none")))
    (.cons .bad
    (.cons (.ret (.var 1))
    .nil))), true, none⟩
def d_l_attempted : PDef := ⟨2, 2,
    (.cons .bad
    .nil), true, none⟩
def d_l_undone : PDef := ⟨1, 1,
    (.cons .bad
    .nil), true, none⟩
def d_law_k15 : PDef := ⟨1, 9,
    (.cons (.for_ (.nm 1) (.rng (.blt .max2 (.cons (.cst (.int 4)) (.cons (.blt .min2 (.cons (.cst (.int 9)) (.cons (.blt .len (.cons (.var 0) .nil)) .nil))) .nil)))) (.cons (.asg (.nm 2) (.call .l_vat (.cons (.var 0) (.cons (.var 1) .nil))))
    (.cons .bad
    (.cons (.ifs (.cmp .eq (.call .l_under (.cons (.var 2) (.cons (.cst (.int 2)) .nil))) (.cst (.int 0))) (.cons .bad
    (.cons .bad
    .nil)) .nil)
    (.cons (.for_ (.nm 3) (.rng (.cst (.int 3))) (.cons (.app (.var 6) (.call .l_look (.cons (.var 5) .nil)))
    (.cons .bad
    (.cons (.ifs (.or (.cmp .ne (.var 7) (.fl (.disp (.cons (.cst (.str "moves")) (.cons (.cst (.str "moves")) (.cons (.cst (.str "undo")) (.cons (.cst (.str "impossible")) (.cons (.cst (.str "fact")) .nil)))))))) (.cmp .ne (.call .l_look (.cons (.var 5) .nil)) (.idx (.var 6) (.neg (.cst (.int 1)))))) (.cons (.ret (.cst (.bl false)))
    .nil) .nil)
    (.cons .bad
    .nil)))))
    (.cons (.for_ (.nm 4) (.val (.rev (.var 6))) (.cons (.for_ (.nm 3) (.rng (.cst (.int 3))) (.cons .bad
    .nil))
    (.cons (.ifs (.cmp .ne (.call .l_look (.cons (.var 5) .nil)) (.var 4)) (.cons (.ret (.cst (.bl false)))
    .nil) .nil)
    .nil)))
    (.cons .bad
    (.cons .bad
    (.cons .bad
    .nil)))))))))
    (.cons (.ret (.cst (.bl true)))
    .nil)), true, none⟩
def d_l_first : PDef := ⟨2, 4,
    (.cons (.asg (.nm 2) (.fl (.comp [3] (.nm 3) (.val (.tup (.cons (.fn .rows) (.cons (.fn .is_possible) (.cons (.fn .quarrels) (.cons (.fn .needless) (.cons (.fn .facts_text) .nil))))))) (.cst (.bl true)) (.err (.callv (.var 3) (.cons (.var 0) (.cons (.var 1) .nil)))))))
    (.cons (.asg (.nm 2) (.bin .add (.var 2) (.fl (.comp [3] (.nm 3) (.val (.tup (.cons (.fn .keeps) (.cons (.fn .how) (.cons (.fn .always_paper) (.cons (.fn .never_paper) (.cons (.fn .sure_gap) .nil))))))) (.cst (.bl true)) (.err (.callv (.var 3) (.cons (.var 0) (.cons (.var 1) (.cons (.cst .non) .nil)))))))))
    (.cons (.asg (.nm 2) (.bin .add (.var 2) (.fl (.comp [3] (.nm 3) (.val (.tup (.cons (.fn .hoped_gap) (.cons (.fn .least_lots) (.cons (.fn .surely) (.cons (.fn .alike) (.cons (.fn .parting) .nil))))))) (.cst (.bl true)) (.err (.callv (.var 3) (.cons (.var 0) (.cons (.var 1) (.cons (.cst .non) .nil)))))))))
    (.cons (.asg (.nm 2) (.bin .add (.var 2) (.fl (.comp [3] (.nm 3) (.val (.tup (.cons (.fn .widths_for) (.cons (.fn .free) (.cons (.fn .freeing) (.cons (.fn .is_always_paper) (.cons (.fn .is_never_paper) .nil))))))) (.cst (.bl true)) (.err (.callv (.var 3) (.cons (.var 0) (.cons (.var 1) (.cons (.cst .non) (.cons (.cst .non) .nil))))))))))
    (.cons (.ret (.sset (.var 2)))
    .nil))))), true, none⟩
def d_l_by_hand_k16 : PDef := ⟨0, 4,
    (.cons (.asg (.tp [(.nm 2), (.nm 3)]) (.tup (.cons (.tup (.cons (.cst (.int 9)) (.cons (.cst (.int 1)) (.cons (.cst (.int 1)) .nil)))) (.cons (.tup (.cons (.tup (.cons (.cst (.str "sum")) (.cons (.tup (.cons (.cst (.int 0)) .nil)) (.cons (.cst (.int 5)) (.cons (.cst (.int 5)) .nil))))) (.cons (.tup (.cons (.cst (.str "sum")) (.cons (.tup (.cons (.cst (.int 0)) .nil)) (.cons (.cst (.int 6)) (.cons (.cst (.int 6)) .nil))))) .nil))) .nil))))
    (.cons (.asg (.nm 0) (.fl (.disp (.cons (.err (.call .can_open (.cons (.var 2) (.cons (.cst .non) (.cons (.cst .non) .nil))))) (.cons (.err (.call .widths_for (.cons (.var 2) (.cons (.var 3) (.cons (.tup .nil) (.cons (.cst .non) .nil)))))) (.cons (.err (.call .how (.cons (.var 2) (.cons (.var 3) (.cons (.tup (.cons (.tup (.cons (.cst (.int 0)) (.cons (.cst (.int 1)) .nil))) .nil)) .nil))))) .nil))))))
    (.cons (.asg (.nm 0) (.bin .add (.var 0) (.fl (.disp (.cons (.err (.call .free (.cons (.var 2) (.cons (.var 3) (.cons (.cst .non) (.cons (.cst .non) .nil)))))) (.cons (.err (.call .free (.cons (.var 2) (.cons (.var 3) (.cons (.tup (.cons (.cst (.int 0)) (.cons (.cst (.int 0)) .nil))) (.cons (.cst .non) .nil)))))) (.cons (.err (.call .free (.cons (.var 2) (.cons (.var 3) (.cons (.tup (.cons (.cst (.int 0)) (.cons (.cst (.int 0)) .nil))) (.cons (.tup (.cons (.cst (.int 0)) (.cons (.cst (.int 1)) .nil))) .nil)))))) .nil)))))))
    (.cons (.asg (.nm 0) (.bin .add (.var 0) (.fl (.disp (.cons (.err (.call .surely (.cons (.var 2) (.cons (.var 3) (.cons (.cst .non) .nil))))) (.cons (.err (.call .surely (.cons (.var 2) (.cons (.var 3) (.cons (.idx (.var 3) (.cst (.int 0))) .nil))))) (.cons (.err (.call .after (.cons (.var 2) (.cons (.cst .non) (.cons (.cst .non) .nil))))) .nil)))))))
    (.cons (.asg (.nm 1) (.bin .add (.bin .mul (.fl (.disp (.cons (.cst (.str "shelves value")) .nil))) (.cst (.int 2))) (.fl (.disp (.cons (.cst (.str "impossible value")) (.cons (.cst (.str "standing value")) (.cons (.cst (.str "shelves value")) (.cons (.cst (.str "impossible value")) (.cons (.cst (.str "fact value")) (.cons (.cst (.str "impossible value")) .nil))))))))))
    (.cons (.ret (.and (.cmp .eq (.var 0) (.bin .add (.var 1) (.fl (.disp (.cons (.cst (.str "standing value")) .nil))))) (.cmp .is (.call .widths_for (.cons (.var 2) (.cons (.var 3) (.cons (.tup (.cons (.tup (.cons (.cst (.int 0)) (.cons (.cst (.int 1)) .nil))) .nil)) (.cons (.cst (.bl true)) .nil))))) (.cst .non))))
    .nil)))))), true, none⟩
def d_law_k16 : PDef := ⟨1, 10,
    (.cons (.asg (.nm 1) (.cst (.str "wardrobe facts fact widths shelves standing moves truth number index impossible unlike undo")))
    (.cons (.for_ (.nm 2) (.rng (.blt .max2 (.cons (.cst (.int 3)) (.cons (.blt .min2 (.cons (.cst (.int 6)) (.cons (.blt .len (.cons (.var 0) .nil)) .nil))) .nil)))) (.cons (.asg (.nm 3) (.call .l_vat (.cons (.var 0) (.cons (.var 2) .nil))))
    (.cons (.asg (.tp [(.nm 6), (.nm 7)]) (.tup (.cons (.call .l_some (.cons (.var 3) (.cons (.fl (.disp (.cons (.cst (.str "")) (.cons (.cst (.str "no wardrobe")) (.cons (.cst (.str "a b c")) .nil))))) .nil))) (.cons (.call .l_under (.cons (.var 3) (.cons (.cst (.int 1000)) .nil))) .nil))))
    (.cons .bad
    (.cons .bad
    (.cons .bad
    (.cons (.ifs (.cmp .ne (.fl (.comp [8] (.nm 8) (.val (.var 4)) (.cmp .ne (.blt .str (.cons (.var 8) .nil)) (.var 6)) (.var 8))) (.fl (.disp .nil))) (.cons (.ret (.cst (.bl false)))
    .nil) .nil)
    (.cons .bad
    (.cons .bad
    (.cons .bad
    (.cons (.for_ (.nm 5) (.val (.fl (.disp (.cons (.cst .non) (.cons (.tup (.cons (.cst (.int 0)) (.cons (.cst (.int 1)) (.cons (.cst (.int 1)) .nil)))) (.cons (.call .l_some (.cons (.var 3) (.cons (.fl (.disp (.cons (.cst (.int 7)) (.cons (.cst (.str "a")) (.cons (.fl (.disp (.cons (.cst (.int 5)) (.cons (.cst (.int 1)) (.cons (.cst (.int 1)) .nil))))) .nil))))) .nil))) .nil)))))) (.cons (.ifs (.cmp .ne (.call .l_first (.cons (.var 5) (.cons (.cst .non) .nil))) (.fl (.disp (.cons (.cst (.str "wardrobe value")) .nil)))) (.cons (.ret (.cst (.bl false)))
    .nil) .nil)
    .nil))
    (.cons (.for_ (.nm 5) (.val (.fl (.disp (.cons (.cst .non) (.cons (.tup (.cons (.cst .non) .nil)) (.cons (.call .l_some (.cons (.var 3) (.cons (.fl (.disp (.cons (.cst (.int 7)) (.cons (.cst (.str "a")) (.cons (.fl (.disp .nil)) (.cons (.tup (.cons (.tup (.cons (.cst (.str "sum")) (.cons (.tup (.cons (.cst (.int 5)) .nil)) (.cons (.cst (.int 0)) (.cons (.cst (.int 1)) .nil))))) .nil)) .nil)))))) .nil))) .nil)))))) (.cons (.ifs (.cmp .ne (.call .l_first (.cons (.tup (.cons (.cst (.int 9)) (.cons (.cst (.int 1)) (.cons (.cst (.int 1)) .nil)))) (.cons (.var 5) .nil))) (.fl (.disp (.cons (.cst (.str "facts value")) .nil)))) (.cons (.ret (.cst (.bl false)))
    .nil) .nil)
    .nil))
    .nil))))))))))))
    (.cons (.ret (.call .l_by_hand_k16 .nil))
    .nil))), true, none⟩
def d_l_all_widths : PDef := ⟨1, 7,
    (.cons (.asg (.nm 1) (.fl (.disp (.cons (.tup .nil) .nil))))
    (.cons (.for_ (.nm 2) (.val (.call .l_rails (.cons (.var 0) .nil))) (.cons (.for_ (.nm 3) (.val (.var 2)) (.cons (.asg (.nm 4) (.nl (.disp .nil)))
    (.cons (.for_ (.nm 5) (.val (.var 1)) (.cons (.for_ (.nm 6) (.rng2 (.cst (.int 1)) (.bin .add (.bin .mul (.cst (.int 2)) (.idx (.var 0) (.cst (.int 0)))) (.cst (.int 1)))) (.cons (.app (.var 4) (.bin .add (.var 5) (.tup (.cons (.call .l_low (.cons (.var 6) (.cons (.cst (.int 2)) .nil))) .nil))))
    .nil))
    .nil))
    (.cons (.asg (.nm 1) (.var 4))
    .nil))))
    .nil))
    (.cons (.ret (.fl (.comp [5] (.nm 5) (.val (.var 1)) (.call .l_are_widths (.cons (.var 0) (.cons (.var 5) .nil))) (.var 5))))
    .nil))), true, none⟩
def d_l_agrees : PDef := ⟨2, 2,
    (.cons (.ifs (.cmp .eq (.var 0) (.cst (.str "always"))) (.cons (.ret (.cmp .notin (.cst (.bl false)) (.var 1)))
    .nil) .nil)
    (.cons (.ret (.ife (.cmp .eq (.var 0) (.cst (.str "never"))) (.cmp .notin (.cst (.bl true)) (.var 1)) (.cmp .eq (.var 0) (.cst (.str "sometimes")))))
    .nil)), true, none⟩
def d_l_is_free : PDef := ⟨4, 6,
    (.cons (.for_ (.tp [(.nm 4), (.nm 5)]) (.zip (.call .l_rails (.cons (.var 0) .nil)) (.var 1)) (.cons (.ifs (.not (.call .l_most (.cons (.call .l_sum (.cons (.var 3) (.cons (.slt (.var 4) (.var 5)) .nil))) (.cons (.idx (.var 2) (.cst (.int 0))) .nil)))) (.cons (.ret (.cst (.bl false)))
    .nil) .nil)
    (.cons (.ifs (.not (.call .l_most (.cons (.call .l_sum (.cons (.var 3) (.cons (.slf (.var 4) (.var 5)) .nil))) (.cons (.bin .sub (.idx (.var 0) (.cst (.int 0))) (.idx (.var 2) (.cst (.int 1)))) .nil)))) (.cons (.ret (.cst (.bl false)))
    .nil) .nil)
    .nil)))
    (.cons (.ret (.cst (.bl true)))
    .nil)), true, none⟩
def d_law_k17 : PDef := ⟨1, 13,
    (.cons (.for_ (.nm 1) (.rng (.blt .max2 (.cons (.cst (.int 4)) (.cons (.blt .min2 (.cons (.cst (.int 7)) (.cons (.blt .len (.cons (.var 0) .nil)) .nil))) .nil)))) (.cons (.asg (.nm 5) (.call .l_vat (.cons (.var 0) (.cons (.var 1) .nil))))
    (.cons (.asg (.nm 6) (.bin .add (.tup (.cons (.bin .add (.cst (.int 3)) (.call .l_under (.cons (.var 5) (.cons (.cst (.int 2)) .nil)))) .nil)) (.call .l_some (.cons (.var 5) (.cons (.fl (.disp (.cons (.tup (.cons (.cst (.int 1)) (.cons (.cst (.int 1)) .nil))) (.cons (.tup (.cons (.cst (.int 2)) (.cons (.cst (.int 1)) .nil))) (.cons (.tup (.cons (.cst (.int 1)) (.cons (.cst (.int 2)) .nil))) .nil))))) .nil)))))
    (.cons (.asg (.tp [(.nm 7), (.nm 8)]) (.tup (.cons (.call .l_facts (.cons (.var 5) (.cons (.var 6) (.cons (.cst (.int 3)) .nil)))) (.cons (.call .l_shelves (.cons (.var 5) (.cons (.var 6) .nil))) .nil))))
    (.cons (.asg (.nm 3) (.call .l_all_widths (.cons (.var 6) .nil)))
    (.cons (.asg (.nm 3) (.fl (.comp [12] (.nm 12) (.val (.var 3)) (.call .l_keeps (.cons (.var 7) (.cons (.var 12) .nil))) (.var 12))))
    (.cons (.ifs (.cmp .ne (.fl (.comp [12] (.nm 12) (.val (.slt (.var 3) (.cst (.int 20)))) (.not (.call .keeps (.cons (.var 6) (.cons (.var 7) (.cons (.var 12) .nil))))) (.var 12))) (.fl (.disp .nil))) (.cons (.ret (.cst (.bl false)))
    .nil) .nil)
    (.cons (.ifs (.not (.call .is_possible (.cons (.var 6) (.cons (.var 7) .nil)))) (.cons (.ifs (.cmp .ne (.var 3) (.fl (.disp .nil))) (.cons (.ret (.cst (.bl false)))
    .nil) .nil)
    .nil) (.cons (.asg (.nm 4) (.fl (.comp [12] (.nm 12) (.val (.var 3)) (.cst (.bl true)) (.call .l_opens (.cons (.var 6) (.cons (.var 8) (.cons (.var 12) .nil)))))))
    (.cons (.ifs (.not (.call .l_agrees (.cons (.call .how (.cons (.var 6) (.cons (.var 7) (.cons (.var 8) .nil)))) (.cons (.var 4) .nil)))) (.cons (.ret (.cst (.bl false)))
    .nil) .nil)
    (.cons (.asg (.nm 9) (.tup (.cons (.call .l_under (.cons (.var 5) (.cons (.bin .add (.idx (.var 6) (.cst (.int 1))) (.cst (.int 1))) .nil))) (.cons (.call .l_under (.cons (.var 5) (.cons (.bin .add (.idx (.var 6) (.cst (.int 2))) (.cst (.int 1))) .nil))) .nil))))
    (.cons (.asg (.nm 4) (.fl (.comp [12] (.nm 12) (.val (.var 3)) (.cst (.bl true)) (.call .l_is_free (.cons (.var 6) (.cons (.var 9) (.cons (.idx (.var 8) (.cst (.int 0))) (.cons (.var 12) .nil))))))))
    (.cons (.ifs (.not (.call .l_agrees (.cons (.call .free (.cons (.var 6) (.cons (.var 7) (.cons (.var 9) (.cons (.idx (.var 8) (.cst (.int 0))) .nil))))) (.cons (.var 4) .nil)))) (.cons (.ret (.cst (.bl false)))
    .nil) .nil)
    (.cons (.asg (.nm 10) (.call .l_fact (.cons (.var 5) (.cons (.var 6) .nil))))
    (.cons (.par [4, 11] (.cons (.fl (.comp [12] (.nm 12) (.val (.var 3)) (.cst (.bl true)) (.call .l_keeps (.cons (.tup (.cons (.var 10) .nil)) (.cons (.var 12) .nil))))) (.cons (.call .surely (.cons (.var 6) (.cons (.var 7) (.cons (.var 10) .nil)))) .nil)))
    (.cons (.ifs (.and (.cmp .isnot (.var 11) (.cst .non)) (.cmp .inn (.not (.var 11)) (.var 4))) (.cons (.ret (.cst (.bl false)))
    .nil) .nil)
    .nil)))))))))
    .nil))))))))
    (.cons (.asg (.nm 2) (.tup (.cons (.cst (.int 3)) (.cons (.cst (.int 1)) (.cons (.cst (.int 1)) .nil)))))
    (.cons (.ifs (.or (.cmp .ne (.call .how (.cons (.var 2) (.cons (.tup (.cons (.tup (.cons (.cst (.str "sum")) (.cons (.tup (.cons (.cst (.int 1)) .nil)) (.cons (.cst (.int 1)) (.cons (.cst (.int 1)) .nil))))) .nil)) (.cons (.tup (.cons (.tup (.cons (.cst (.int 1)) (.cons (.cst (.int 2)) .nil))) .nil)) .nil)))) (.cst (.str "sometimes"))) (.cmp .ne (.call .how (.cons (.var 2) (.cons (.tup .nil) (.cons (.tup (.cons (.tup (.cons (.cst (.int 0)) (.cons (.cst (.int 3)) .nil))) .nil)) .nil)))) (.cst (.str "never")))) (.cons (.ret (.cst (.bl false)))
    .nil) .nil)
    (.cons (.asg (.nm 3) (.call .l_all_widths (.cons (.var 2) .nil)))
    (.cons (.asg (.nm 4) (.fl (.comp [12] (.nm 12) (.val (.var 3)) (.cst (.bl true)) (.call .l_opens (.cons (.var 2) (.cons (.tup (.cons (.tup (.cons (.cst (.int 0)) (.cons (.cst (.int 1)) .nil))) .nil)) (.cons (.var 12) .nil)))))))
    (.cons (.ret (.and (.cmp .eq (.blt .len (.cons (.var 3) .nil)) (.cst (.int 36))) (.and (.cmp .eq (.mth .count (.var 4) (.cons (.cst (.bl true)) .nil)) (.cst (.int 16))) (.cmp .eq (.call .how (.cons (.var 2) (.cons (.tup .nil) (.cons (.tup (.cons (.tup (.cons (.cst (.int 0)) (.cons (.cst (.int 1)) .nil))) .nil)) .nil)))) (.cst (.str "sometimes"))))))
    .nil)))))), true, none⟩
def d_l_single_right : PDef := ⟨3, 6,
    (.cons (.par [4, 5] (.cons (.tup (.cons (.var 0) (.cons (.cst (.int 1)) (.cons (.cst (.int 1)) .nil)))) (.cons (.tup (.cons (.tup (.cons (.cst (.str "sum")) (.cons (.tup (.cons (.cst (.int 0)) .nil)) (.cons (.var 1) (.cons (.var 2) .nil))))) (.cons (.tup (.cons (.cst (.str "sum")) (.cons (.tup (.cons (.cst (.int 1)) .nil)) (.cons (.cst (.int 1)) (.cons (.cst (.int 1)) .nil))))) .nil))) .nil)))
    (.cons (.asg (.nm 3) (.nl (.disp (.cons (.cmp .eq (.call .how (.cons (.var 4) (.cons (.var 5) (.cons (.tup (.cons (.tup (.cons (.var 2) (.cons (.var 0) .nil))) .nil)) .nil)))) (.cst (.str "always"))) (.cons (.cmp .eq (.call .how (.cons (.var 4) (.cons (.var 5) (.cons (.tup (.cons (.tup (.cons (.var 1) (.cons (.var 0) .nil))) .nil)) .nil)))) (.cst (.str "sometimes"))) .nil)))))
    (.cons (.app (.var 3) (.and (.cmp .eq (.call .how (.cons (.var 4) (.cons (.var 5) (.cons (.tup (.cons (.tup (.cons (.cst (.int 0)) (.cons (.bin .sub (.var 0) (.var 2)) .nil))) .nil)) .nil)))) (.cst (.str "always"))) (.cmp .eq (.call .how (.cons (.var 4) (.cons (.var 5) (.cons (.tup (.cons (.tup (.cons (.cst (.int 0)) (.cons (.var 0) .nil))) .nil)) .nil)))) (.cst (.str "never")))))
    (.cons (.app (.var 3) (.and (.cmp .eq (.call .free (.cons (.var 4) (.cons (.var 5) (.cons (.tup (.cons (.cst (.int 1)) (.cons (.cst (.int 1)) .nil))) (.cons (.tup (.cons (.var 2) (.cons (.bin .add (.var 2) (.cst (.int 1))) .nil))) .nil))))) (.cst (.str "always"))) (.cmp .eq (.call .free (.cons (.var 4) (.cons (.var 5) (.cons (.tup (.cons (.cst (.int 1)) (.cons (.cst (.int 1)) .nil))) (.cons (.tup (.cons (.cst (.int 0)) (.cons (.cst (.int 1)) .nil))) .nil))))) (.cst (.str "never")))))
    (.cons (.app (.var 3) (.and (.cmp .eq (.call .sure_gap (.cons (.var 4) (.cons (.var 5) (.cons (.tup (.cons (.cst (.int 1)) (.cons (.cst (.int 1)) .nil))) .nil)))) (.bin .sub (.var 0) (.var 2))) (.cmp .eq (.call .hoped_gap (.cons (.var 4) (.cons (.var 5) (.cons (.tup (.cons (.cst (.int 1)) (.cons (.cst (.int 1)) .nil))) .nil)))) (.bin .sub (.var 0) (.var 1)))))
    (.cons (.app (.var 3) (.cmp .eq (.call .sure_gap (.cons (.var 4) (.cons (.var 5) (.cons (.tup (.cons (.cst (.int 1)) (.cons (.cst (.int 0)) .nil))) .nil)))) (.bin .sub (.bin .sub (.var 0) (.var 2)) (.cst (.int 1)))))
    (.cons (.app (.var 3) (.cmp .eq (.call .freeing (.cons (.var 4) (.cons (.var 5) (.cons (.tup (.cons (.cst (.int 1)) (.cons (.cst (.int 1)) .nil))) (.cons (.tup (.cons (.cst (.int 0)) (.cons (.cst (.int 1)) .nil))) .nil))))) (.tup (.cons (.tup (.cons (.cst (.str "drive")) (.cons (.cst (.int 0)) (.cons (.cst (.str "right")) .nil)))) (.cons (.tup (.cons (.cst (.str "drive")) (.cons (.cst (.int 1)) (.cons (.cst (.str "right")) .nil)))) .nil)))))
    (.cons (.app (.var 3) (.cmp .is (.call .surely (.cons (.var 4) (.cons (.var 5) (.cons (.tup (.cons (.cst (.str "wider")) (.cons (.tup (.cons (.cst (.int 0)) .nil)) (.cons (.tup (.cons (.cst (.int 1)) .nil)) .nil)))) .nil)))) (.cst (.bl true))))
    (.cons (.app (.var 3) (.and (.cmp .eq (.call .least_lots (.cons (.var 4) (.cons (.var 5) (.cons (.tup (.cons (.tup (.cons (.var 2) (.cons (.var 0) .nil))) .nil)) .nil)))) (.fl (.disp (.cons (.tup (.cons (.cst (.int 0)) (.cons (.cst (.int 1)) .nil))) .nil)))) (.cmp .eq (.call .quarrels (.cons (.var 4) (.cons (.var 5) .nil))) (.fl (.disp .nil)))))
    (.cons (.app (.var 3) (.cmp .eq (.call .needless (.cons (.var 4) (.cons (.bin .add (.var 5) (.tup (.cons (.tup (.cons (.cst (.str "sum")) (.cons (.tup (.cons (.cst (.int 0)) .nil)) (.cons (.cst (.int 0)) (.cons (.var 2) .nil))))) .nil))) .nil))) (.fl (.disp (.cons (.cst (.int 2)) .nil)))))
    (.cons (.ret (.var 3))
    .nil))))))))))), true, none⟩
def d_l_twin_right : PDef := ⟨1, 4,
    (.cons (.asg (.nm 1) (.tup (.cons (.bin .mul (.cst (.int 4)) (.var 0)) (.cons (.cst (.int 2)) (.cons (.cst (.int 1)) .nil)))))
    (.cons (.asg (.nm 2) (.tup (.cons (.tup (.cons (.cst (.str "wider")) (.cons (.tup (.cons (.cst (.int 0)) .nil)) (.cons (.tup (.cons (.cst (.int 1)) .nil)) .nil)))) (.cons (.tup (.cons (.cst (.str "wider")) (.cons (.tup (.cons (.cst (.int 1)) .nil)) (.cons (.tup (.cons (.cst (.int 0)) .nil)) .nil)))) (.cons (.tup (.cons (.cst (.str "sum")) (.cons (.tup (.cons (.cst (.int 0)) (.cons (.cst (.int 1)) .nil))) (.cons (.bin .mul (.cst (.int 2)) (.var 0)) (.cons (.bin .mul (.cst (.int 2)) (.var 0)) .nil))))) (.cons (.tup (.cons (.cst (.str "sum")) (.cons (.tup (.cons (.cst (.int 2)) .nil)) (.cons (.var 0) (.cons (.var 0) .nil))))) .nil))))))
    (.cons (.asg (.nm 3) (.nl (.disp (.cons (.cmp .eq (.call .how (.cons (.var 1) (.cons (.var 2) (.cons (.tup (.cons (.tup (.cons (.var 0) (.cons (.bin .mul (.cst (.int 3)) (.var 0)) .nil))) .nil)) .nil)))) (.cst (.str "always"))) (.cons (.cmp .eq (.call .how (.cons (.var 1) (.cons (.var 2) (.cons (.tup (.cons (.tup (.cons (.bin .sub (.var 0) (.cst (.int 1))) (.cons (.bin .mul (.cst (.int 4)) (.var 0)) .nil))) .nil)) .nil)))) (.cst (.str "never"))) .nil)))))
    (.cons (.app (.var 3) (.cmp .eq (.call .how (.cons (.var 1) (.cons (.var 2) (.cons (.tup (.cons (.tup (.cons (.cst (.int 0)) (.cons (.var 0) .nil))) (.cons (.tup (.cons (.bin .mul (.cst (.int 3)) (.var 0)) (.cons (.bin .mul (.cst (.int 4)) (.var 0)) .nil))) .nil))) .nil)))) (.cst (.str "always"))))
    (.cons (.app (.var 3) (.cmp .eq (.call .how (.cons (.var 1) (.cons (.var 2) (.cons (.tup (.cons (.tup (.cons (.var 0) (.cons (.bin .mul (.cst (.int 2)) (.var 0)) .nil))) (.cons (.tup (.cons (.bin .mul (.cst (.int 3)) (.var 0)) (.cons (.bin .mul (.cst (.int 4)) (.var 0)) .nil))) .nil))) .nil)))) (.cst (.str "always"))))
    (.cons (.app (.var 3) (.cmp .eq (.call .how (.cons (.var 1) (.cons (.var 2) (.cons (.tup (.cons (.tup (.cons (.cst (.int 0)) (.cons (.cst (.int 1)) .nil))) (.cons (.tup (.cons (.bin .mul (.cst (.int 2)) (.var 0)) (.cons (.bin .mul (.cst (.int 4)) (.var 0)) .nil))) .nil))) .nil)))) (.cst (.str "never"))))
    (.cons (.app (.var 3) (.and (.cmp .is (.call .surely (.cons (.var 1) (.cons (.var 2) (.cons (.tup (.cons (.cst (.str "sum")) (.cons (.tup (.cons (.cst (.int 0)) .nil)) (.cons (.var 0) (.cons (.var 0) .nil))))) .nil)))) (.cst (.bl true))) (.cmp .eq (.call .needless (.cons (.var 1) (.cons (.var 2) .nil))) (.fl (.disp .nil)))))
    (.cons (.app (.var 3) (.cmp .eq (.call .widths_for (.cons (.var 1) (.cons (.var 2) (.cons (.tup (.cons (.tup (.cons (.cst (.int 0)) (.cons (.var 0) .nil))) .nil)) (.cons (.cst (.bl true)) .nil))))) (.bin .mul (.tup (.cons (.tup (.cons (.var 0) (.cons (.cst (.int 1)) .nil))) .nil)) (.cst (.int 3)))))
    (.cons (.app (.var 3) (.call .alike (.cons (.var 1) (.cons (.var 2) (.cons (.tup (.cons (.tup (.cons (.cst (.str "sum")) (.cons (.tup (.cons (.cst (.int 0)) .nil)) (.cons (.var 0) (.cons (.var 0) .nil))))) (.cons (.tup (.cons (.cst (.str "sum")) (.cons (.tup (.cons (.cst (.int 1)) .nil)) (.cons (.var 0) (.cons (.var 0) .nil))))) (.cons (.tup (.cons (.cst (.str "sum")) (.cons (.tup (.cons (.cst (.int 2)) .nil)) (.cons (.var 0) (.cons (.var 0) .nil))))) .nil)))) .nil)))))
    (.cons (.app (.var 3) (.cmp .isnot (.call .always_paper (.cons (.var 1) (.cons (.var 2) (.cons (.tup (.cons (.tup (.cons (.var 0) (.cons (.bin .mul (.cst (.int 3)) (.var 0)) .nil))) .nil)) .nil)))) (.cst .non)))
    (.cons (.app (.var 3) (.cmp .isnot (.call .never_paper (.cons (.var 1) (.cons (.var 2) (.cons (.tup (.cons (.tup (.cons (.cst (.int 0)) (.cons (.cst (.int 1)) .nil))) (.cons (.tup (.cons (.bin .mul (.cst (.int 2)) (.var 0)) (.cons (.bin .mul (.cst (.int 4)) (.var 0)) .nil))) .nil))) .nil)))) (.cst .non)))
    (.cons (.ret (.bin .add (.var 3) (.fl (.disp (.cons (.and (.cmp .eq (.call .sure_gap (.cons (.var 1) (.cons (.var 2) (.cons (.tup (.cons (.cst (.int 1)) (.cons (.cst (.int 0)) .nil))) .nil)))) (.bin .mul (.cst (.int 2)) (.var 0))) (.cmp .eq (.call .hoped_gap (.cons (.var 1) (.cons (.var 2) (.cons (.tup (.cons (.cst (.int 1)) (.cons (.cst (.int 1)) .nil))) .nil)))) (.bin .mul (.cst (.int 2)) (.var 0)))) .nil)))))
    .nil)))))))))))), true, none⟩
def d_law_k18 : PDef := ⟨1, 5,
    (.cons (.for_ (.nm 1) (.rng (.blt .max2 (.cons (.cst (.int 3)) (.cons (.blt .min2 (.cons (.cst (.int 6)) (.cons (.blt .len (.cons (.var 0) .nil)) .nil))) .nil)))) (.cons (.asg (.nm 2) (.call .l_vat (.cons (.var 0) (.cons (.var 1) .nil))))
    (.cons (.asg (.nm 3) (.bin .add (.cst (.int 1)) (.call .l_under (.cons (.var 2) (.cons (.cst (.int 40)) .nil)))))
    (.cons (.asg (.nm 4) (.bin .add (.bin .add (.var 3) (.cst (.int 1))) (.call .l_under (.cons (.var 2) (.cons (.cst (.int 40)) .nil)))))
    (.cons (.ifs (.or (.cmp .inn (.cst (.bl false)) (.call .l_single_right (.cons (.bin .add (.bin .add (.bin .mul (.cst (.int 2)) (.var 4)) (.cst (.int 2))) (.call .l_under (.cons (.var 2) (.cons (.cst (.int 99)) .nil)))) (.cons (.var 3) (.cons (.var 4) .nil))))) (.cmp .inn (.cst (.bl false)) (.call .l_twin_right (.cons (.bin .add (.cst (.int 1)) (.call .l_under (.cons (.var 2) (.cons (.cst (.int 9999)) .nil)))) .nil)))) (.cons (.ret (.cst (.bl false)))
    .nil) .nil)
    .nil)))))
    (.cons (.ret (.and (.cmp .notin (.cst (.bl false)) (.call .l_single_right (.cons (.cst (.int 10)) (.cons (.cst (.int 2)) (.cons (.cst (.int 3)) .nil))))) (.cmp .notin (.cst (.bl false)) (.call .l_twin_right (.cons (.cst (.int 2)) .nil)))))
    .nil)), true, none⟩
/-- the table of all defs -/
def T : F → PDef
  | .is_whole => d_is_whole
  | .has_wardrobe => d_has_wardrobe
  | .doors_of => d_doors_of
  | .is_lot => d_is_lot
  | .is_fact => d_is_fact
  | .has_facts => d_has_facts
  | .lowest => d_lowest
  | .is_part => d_is_part
  | .total => d_total
  | .at_most => d_at_most
  | .has_widths => d_has_widths
  | .is_shelf => d_is_shelf
  | .has_shelves => d_has_shelves
  | .need_wardrobe => d_need_wardrobe
  | .is_wardrobe => d_is_wardrobe
  | .is_facts => d_is_facts
  | .is_widths => d_is_widths
  | .are_shelves => d_are_shelves
  | .l_vat => d_l_vat
  | .l_under => d_l_under
  | .l_some => d_l_some
  | .l_is_whole => d_l_is_whole
  | .l_truly => d_l_truly
  | .l_is_lot => d_l_is_lot
  | .l_is_fact => d_l_is_fact
  | .l_are_facts => d_l_are_facts
  | .l_low => d_l_low
  | .l_sum => d_l_sum
  | .l_most => d_l_most
  | .l_rails => d_l_rails
  | .l_are_widths => d_l_are_widths
  | .l_are_shelves => d_l_are_shelves
  | .l_line => d_l_line
  | .l_fact_lines => d_l_fact_lines
  | .l_lines => d_l_lines
  | .l_plain => d_l_plain
  | .l_tight => d_l_tight
  | .l_last => d_l_last
  | .l_can => d_l_can
  | .l_wardrobe => d_l_wardrobe
  | .l_lot => d_l_lot
  | .l_fact => d_l_fact
  | .l_facts => d_l_facts
  | .l_shelves => d_l_shelves
  | .l_names => d_l_names
  | .l_error => d_l_error
  | .l_odd => d_l_odd
  | .l_bent => d_l_bent
  | .l_is_wardrobe => d_l_is_wardrobe
  | .l_judged => d_l_judged
  | .law_k01 => d_law_k01
  | .need_facts => d_need_facts
  | .need_shelves => d_need_shelves
  | .need_widths => d_need_widths
  | .keeps_fact => d_keeps_fact
  | .keeps => d_keeps
  | .rooms => d_rooms
  | .fits => d_fits
  | .can_open => d_can_open
  | .l_keeps => d_l_keeps
  | .l_rooms => d_l_rooms
  | .l_cuts => d_l_cuts
  | .l_opens => d_l_opens
  | .l_drawn => d_l_drawn
  | .l_open => d_l_open
  | .law_k02 => d_law_k02
  | .row_of => d_row_of
  | .fact_rows => d_fact_rows
  | .all_rows => d_all_rows
  | .cuts_of => d_cuts_of
  | .all_blocks => d_all_blocks
  | .all_ways => d_all_ways
  | .rows_of_block => d_rows_of_block
  | .rows_of_way => d_rows_of_way
  | .rows => d_rows
  | .need_both => d_need_both
  | .blocks => d_blocks
  | .ways => d_ways
  | .need_cut => d_need_cut
  | .block_rows => d_block_rows
  | .way_rows => d_way_rows
  | .l_way_lines => d_l_way_lines
  | .l_block_lines => d_l_block_lines
  | .l_told_right => d_l_told_right
  | .l_by_hand => d_l_by_hand
  | .law_k03 => d_law_k03
  | .entering => d_entering
  | .leaving => d_leaving
  | .turned => d_turned
  | .grown => d_grown
  | .judged => d_judged
  | .widths_of => d_widths_of
  | .need_possible => d_need_possible
  | .barring => d_barring
  | .letting => d_letting
  | .opened => d_opened
  | .need_asked => d_need_asked
  | .how => d_how
  | .widths_for => d_widths_for
  | .l_word => d_l_word
  | .l_told_right_k04 => d_l_told_right_k04
  | .l_for => d_l_for
  | .law_k04 => d_law_k04
  | .are_weights => d_are_weights
  | .always_systems => d_always_systems
  | .never_systems => d_never_systems
  | .paper_of => d_paper_of
  | .is_paper => d_is_paper
  | .always_paper => d_always_paper
  | .never_paper => d_never_paper
  | .is_always_paper => d_is_always_paper
  | .is_never_paper => d_is_never_paper
  | .l_are_weights => d_l_are_weights
  | .l_systems => d_l_systems
  | .l_is_paper => d_l_is_paper
  | .l_told_right_k05 => d_l_told_right_k05
  | .l_by_hand_k05 => d_l_by_hand_k05
  | .law_k05 => d_law_k05
  | .need_standing => d_need_standing
  | .is_move => d_is_move
  | .are_moves => d_are_moves
  | .moved => d_moved
  | .all_moved => d_all_moved
  | .after => d_after
  | .l_moved => d_l_moved
  | .l_is_move => d_l_is_move
  | .l_move => d_l_move
  | .l_right => d_l_right
  | .law_k06 => d_law_k06
  | .contrary => d_contrary
  | .free_word => d_free_word
  | .need_shelf => d_need_shelf
  | .free => d_free
  | .gap_rows => d_gap_rows
  | .greatest => d_greatest
  | .is_sure => d_is_sure
  | .sure_gap => d_sure_gap
  | .hoped_gap => d_hoped_gap
  | .l_contrary => d_l_contrary
  | .l_free => d_l_free
  | .l_gaps => d_l_gaps
  | .l_sure => d_l_sure
  | .l_hoped => d_l_hoped
  | .l_gap_right => d_l_gap_right
  | .l_by_hand_k07 => d_l_by_hand_k07
  | .law_k07 => d_law_k07
  | .all_moves => d_all_moves
  | .freeing => d_freeing
  | .l_moves => d_l_moves
  | .l_due => d_l_due
  | .law_k08 => d_law_k08
  | .all_lots => d_all_lots
  | .is_part_of => d_is_part_of
  | .is_possible => d_is_possible
  | .quarrels => d_quarrels
  | .least_lots => d_least_lots
  | .need_fact => d_need_fact
  | .beyond => d_beyond
  | .surely => d_surely
  | .l_always => d_l_always
  | .l_lots => d_l_lots
  | .l_least => d_l_least
  | .l_sure_k09 => d_l_sure_k09
  | .l_told_right_k09 => d_l_told_right_k09
  | .l_by_hand_k09 => d_l_by_hand_k09
  | .law_k09 => d_law_k09
  | .within => d_within
  | .parted_by => d_parted_by
  | .need_two => d_need_two
  | .alike => d_alike
  | .parting => d_parting
  | .needless => d_needless
  | .l_within => d_l_within
  | .l_alike => d_l_alike
  | .l_near => d_l_near
  | .l_told_right_k10 => d_l_told_right_k10
  | .law_k10 => d_law_k10
  | .lot_word => d_lot_word
  | .fact_line => d_fact_line
  | .wardrobe_line => d_wardrobe_line
  | .text_of => d_text_of
  | .facts_text => d_facts_text
  | .number_from => d_number_from
  | .lot_from => d_lot_from
  | .wardrobe_from => d_wardrobe_from
  | .fact_from => d_fact_from
  | .read_facts => d_read_facts
  | .l_words => d_l_words
  | .l_text => d_l_text
  | .law_k11 => d_law_k11
  | .l_read_so => d_l_read_so
  | .l_spoilt => d_l_spoilt
  | .l_number => d_l_number
  | .l_lot_of => d_l_lot_of
  | .l_line_of => d_l_line_of
  | .l_due_k12 => d_l_due_k12
  | .law_k12 => d_law_k12
  | .turned_lot => d_turned_lot
  | .turned_fact => d_turned_fact
  | .l_tried => d_l_tried
  | .l_book => d_l_book
  | .l_turned => d_l_turned
  | .l_due_k13 => d_l_due_k13
  | .l_shown => d_l_shown
  | .l_made_right => d_l_made_right
  | .l_by_hand_k13 => d_l_by_hand_k13
  | .law_k13 => d_law_k13
  | ._wall => d__wall
  | .l_tried_k14 => d_l_tried_k14
  | .l_more => d_l_more
  | .l_call => d_l_call
  | .l_move_k14 => d_l_move_k14
  | .l_learn => d_l_learn
  | .l_shown_k14 => d_l_shown_k14
  | .l_drawn_move => d_l_drawn_move
  | .l_turn => d_l_turn
  | .l_by_hand_k14 => d_l_by_hand_k14
  | .law_k14 => d_law_k14
  | .l_look => d_l_look
  | .l_good => d_l_good
  | .l_bad => d_l_bad
  | .l_ended => d_l_ended
  | .l_attempted => d_l_attempted
  | .l_undone => d_l_undone
  | .law_k15 => d_law_k15
  | .l_first => d_l_first
  | .l_by_hand_k16 => d_l_by_hand_k16
  | .law_k16 => d_law_k16
  | .l_all_widths => d_l_all_widths
  | .l_agrees => d_l_agrees
  | .l_is_free => d_l_is_free
  | .law_k17 => d_law_k17
  | .l_single_right => d_l_single_right
  | .l_twin_right => d_l_twin_right
  | .law_k18 => d_law_k18
end Pw
/-! Ma1: plain computations of the interpreter, step by step. -/
namespace Pw
open PySem
/-- nothing; but what it speaks of stays as it is when a step is simplified -/
structure Fx {α : Type} (a : α) : Type where
/-- what goes on behind a result, left alone until the result is there -/
def bindF {α β : Type} (r : R α) (f : α → PSt → R β) (_ : Fx f) : R β := r.bind f
@[simp ↓] theorem to_F {α β : Type} (r : R α) (f : α → PSt → R β) : r.bind f = bindF r f ⟨⟩ := eqOf rfl
@[simp] theorem bindF_ok {α β : Type} (a : α) (S : PSt) (f : α → PSt → R β) (x : Fx f) : bindF (.ok a S) f x = f a S := eqOf rfl
@[simp] theorem bindF_exc {α β : Type} (c : XC) (vs : List PV) (S : PSt) (f : α → PSt → R β) (x : Fx f) : bindF (.exc c vs S) f x = .exc c vs S := eqOf rfl
@[simp] theorem bindF_err {α β : Type} (f : α → PSt → R β) (x : Fx f) : bindF .err f x = .err := eqOf rfl
@[simp] theorem bindF_ite {α β : Type} (p : Prop) [Decidable p] (a b : R α) (f : α → PSt → R β) (x : Fx f) : bindF (if p then a else b) f x = if p then bindF a f x else bindF b f x := by split <;> rfl
/-- on with the next statements -/
noncomputable def onS (C : Calls) (r : PSs) (fl : Fl) (S : PSt) : R Fl := match fl with
  | .nx ρ' => execs C r ρ' S
  | .ret v => .ok (.ret v) S
@[simp] theorem onS_nx (C : Calls) (r : PSs) (ρ : Env) (S : PSt) : onS C r (.nx ρ) S = execs C r ρ S := eqOf rfl
@[simp] theorem onS_ret (C : Calls) (r : PSs) (v : PV) (S : PSt) : onS C r (.ret v) S = .ok (.ret v) S := eqOf rfl
/-- a def's end -/
def endD (c : Bool) (n : Nat) : R Fl → R PV
  | .ok (.ret v) S' => fin c n v S'
  | .ok (.nx _) S' => fin c n .non S'
  | .exc k ws S' => finX c n k ws S'
  | .err => .err
@[simp] theorem endD_ret (c : Bool) (n : Nat) (v : PV) (S : PSt) : endD c n (.ok (.ret v) S) = fin c n v S := eqOf rfl
@[simp] theorem endD_nx (c : Bool) (n : Nat) (ρ : Env) (S : PSt) : endD c n (.ok (.nx ρ) S) = fin c n .non S := eqOf rfl
@[simp] theorem endD_exc (c : Bool) (n : Nat) (k : XC) (ws : List PV) (S : PSt) : endD c n (.exc k ws S) = finX c n k ws S := eqOf rfl
@[simp] theorem endD_ite (c : Bool) (n : Nat) (p : Prop) [Decidable p] (a b : R Fl) : endD c n (if p then a else b) = if p then endD c n a else endD c n b := by split <;> rfl
@[simp] theorem fin_same {c : Bool} {S : PSt} {v : PV} : fin c S.length v S = .ok v S := by
  unfold fin
  cases c <;> simp
@[simp] theorem finX_same {c : Bool} {S : PSt} {k : XC} {vs : List PV} : finX c S.length k vs S = .exc k vs S := by
  unfold finX
  cases c <;> simp
theorem run_eq {d : Nat} {f : F} {vs : List PV} {S : PSt} (D : PDef) (hD : T f = D) (hn : D.nat = none) (hl : vs.length = D.np) : run T (d + 1) f vs S = endD D.clean S.length (execs (run T d) D.body (vs.map some ++ List.replicate (D.nl - D.np) none) S) := by
  unfold run
  subst hD
  rw [if_pos hl, hn]
  rfl
theorem bind_ite {α β : Type} (p : Prop) [Decidable p] (a b : R α) (f : α → PSt → R β) : (if p then a else b).bind f = if p then a.bind f else b.bind f := by split <;> rfl
section
variable (C : Calls) (ρ : Env) (S : PSt)
@[simp] theorem execs_nil : execs C .nil ρ S = .ok (.nx ρ) S := by rw [execs] <;> rfl
@[simp] theorem execs_cons (s : PS) (r : PSs) : execs C (.cons s r) ρ S = (exec C s ρ S).bind (onS C r) := by rw [execs]; rfl
@[simp] theorem exec_asg (t : Tg) (e : PX) : exec C (.asg t e) ρ S = (ev C e ρ S).bind fun v S => (match bindT t v ρ with
    | some ρ' => .ok (.nx ρ') S
    | none => .err) := by rw [exec] <;> rfl
@[simp] theorem exec_par (ts : List Nat) (es : PXs) : exec C (.par ts es) ρ S = (evs C es ρ S).bind fun vs S => (match parE ts vs ρ with
    | some ρ' => .ok (.nx ρ') S
    | none => .err) := by rw [exec] <;> rfl
@[simp] theorem exec_ex (e : PX) : exec C (.ex e) ρ S = (ev C e ρ S).bind fun _ S => .ok (.nx ρ) S := by rw [exec] <;> rfl
@[simp] theorem exec_ret (e : PX) : exec C (.ret e) ρ S = (ev C e ρ S).bind fun v S => .ok (.ret v) S := by rw [exec] <;> rfl
@[simp] theorem exec_raise (c : XC) (es : PXs) : exec C (.raise c es) ρ S = (evs C es ρ S).bind fun vs S => .exc c vs S := by rw [exec] <;> rfl
@[simp] theorem exec_ifs (c : PX) (a b : PSs) : exec C (.ifs c a b) ρ S = (evT C c ρ S).bind fun k S => if k = true then execs C a ρ S else execs C b ρ S := by rw [exec] <;> rfl
@[simp] theorem exec_whl (c : PX) (b : PSs) : exec C (.whl c b) ρ S = whlL (evT C c) (execs C b) ρ S := by rw [exec] <;> rfl
/-- a turn of a for -/
noncomputable def turnF (t : Tg) (b : PSs) (x : PV) (ρ : Env) (S : PSt) : R Fl := match bindT t x ρ with
  | some ρ' => execs C b ρ' S
  | none => .err
@[simp] theorem exec_for (t : Tg) (s : PXr) (b : PSs) : exec C (.for_ t s b) ρ S = (evR C s ρ S).bind fun p S => forL (turnF C t b) p.2 p.1 ρ S := by rw [exec]; rfl
@[simp] theorem exec_pass : exec C .pass ρ S = .ok (.nx ρ) S := by rw [exec] <;> rfl
@[simp] theorem exec_setI (o i e : PX) : exec C (.setI o i e) ρ S = (ev C e ρ S).bind fun v S => (ev C o ρ S).bind fun x S => (ev C i ρ S).bind fun y S => (match setV S x y v with
    | some S' => .ok (.nx ρ) S'
    | none => .err) := by rw [exec] <;> rfl
@[simp] theorem exec_setI2 (o i a b : PX) (j : Nat) : exec C (.setI2 o i j a b) ρ S = (ev C a ρ S).bind fun v S => (ev C b ρ S).bind fun w S => (ev C o ρ S).bind fun x S => (ev C i ρ S).bind fun y S => (match setV S x y v with
    | some S' => if j < ρ.length then .ok (.nx (ρ.set j (some w))) S' else .err
    | none => .err) := by rw [exec] <;> rfl
@[simp] theorem exec_aug (i : Nat) (op : BOp) (e : PX) : exec C (.aug i op e) ρ S = (R.ofO S (ρ[i]?.join)).bind fun x S => (ev C e ρ S).bind fun y S => (match op, x, y with
    | .add, .int a, .int b => .ok (.nx (ρ.set i (some (.int (a + b))))) S
    | _, _, _ => .err) := by rw [exec] <;> rfl
@[simp] theorem exec_app (o e : PX) : exec C (.app o e) ρ S = (ev C o ρ S).bind fun x S => if isMut S x = true then (ev C e ρ S).bind fun v S => (match appV S x v with
    | some S' => .ok (.nx ρ) S'
    | none => .err) else .err := by rw [exec] <;> rfl
@[simp] theorem evs_nil : evs C .nil ρ S = .ok [] S := by rw [evs] <;> rfl
@[simp] theorem evs_cons (e : PX) (es : PXs) : evs C (.cons e es) ρ S = (ev C e ρ S).bind fun v S => (evs C es ρ S).bind fun vs S => .ok (v :: vs) S := by rw [evs] <;> rfl
@[simp] theorem ev_var (i : Nat) : ev C (.var i) ρ S = R.ofO S (ρ[i]?.join) := by rw [ev] <;> rfl
@[simp] theorem ev_cst (v : PV) : ev C (.cst v) ρ S = .ok v S := by rw [ev] <;> rfl
@[simp] theorem ev_fn (f : F) : ev C (.fn f) ρ S = .ok (.fn f) S := by rw [ev] <;> rfl
@[simp] theorem ev_mw : ev C .mw ρ S = .ok (.int 1000000) S := by rw [ev] <;> rfl
@[simp] theorem ev_tup (es : PXs) : ev C (.tup es) ρ S = (evs C es ρ S).bind fun vs S => .ok (.tup vs) S := by rw [ev] <;> rfl
@[simp] theorem ev_fl (l : PXl) : ev C (.fl l) ρ S = (evL C l ρ S).bind fun vs S => .ok (.lst vs) S := by rw [ev] <;> rfl
@[simp] theorem ev_nl (l : PXl) : ev C (.nl l) ρ S = (evL C l ρ S).bind fun vs S => .ok (.ref S.length) (S ++ [.lst vs]) := by rw [ev] <;> rfl
@[simp] theorem ev_bin (op : BOp) (a b : PX) : ev C (.bin op a b) ρ S = (ev C a ρ S).bind fun x S => (ev C b ρ S).bind fun y S => R.ofO S (binV S op x y) := by rw [ev] <;> rfl
@[simp] theorem ev_neg (a : PX) : ev C (.neg a) ρ S = (ev C a ρ S).bind fun x S => (match x with
    | .int i => .ok (.int (-i)) S
    | _ => .err) := by rw [ev] <;> rfl
@[simp] theorem ev_not (a : PX) : ev C (.not a) ρ S = (ev C a ρ S).bind fun x S => (R.ofO S (truthy S x)).bind fun k S => .ok (.bl (!k)) S := by rw [ev] <;> rfl
@[simp] theorem ev_cmp (op : COp) (a b : PX) : ev C (.cmp op a b) ρ S = (ev C a ρ S).bind fun x S => (ev C b ρ S).bind fun y S => R.ofO S ((cmpV S op x y).map .bl) := by rw [ev] <;> rfl
@[simp] theorem ev_chain (o1 o2 : COp) (a b c : PX) : ev C (.chain o1 o2 a b c) ρ S = (ev C a ρ S).bind fun x S => (ev C b ρ S).bind fun y S => (R.ofO S (cmpV S o1 x y)).bind fun k S =>
      if k = true then (ev C c ρ S).bind fun z S => R.ofO S ((cmpV S o2 y z).map .bl) else .ok (.bl false) S := by rw [ev] <;> rfl
@[simp] theorem ev_and (a b : PX) : ev C (.and a b) ρ S = (ev C a ρ S).bind fun x S => (R.ofO S (truthy S x)).bind fun k S => if k = true then ev C b ρ S else .ok x S := by rw [ev] <;> rfl
@[simp] theorem ev_or (a b : PX) : ev C (.or a b) ρ S = (ev C a ρ S).bind fun x S => (R.ofO S (truthy S x)).bind fun k S => if k = true then .ok x S else ev C b ρ S := by rw [ev] <;> rfl
@[simp] theorem ev_ife (c a b : PX) : ev C (.ife c a b) ρ S = (evT C c ρ S).bind fun k S => if k = true then ev C a ρ S else ev C b ρ S := by rw [ev] <;> rfl
@[simp] theorem ev_idx (a i : PX) : ev C (.idx a i) ρ S = (ev C a ρ S).bind fun x S => (ev C i ρ S).bind fun y S => R.ofO S (idxV S x y) := by rw [ev] <;> rfl
@[simp] theorem ev_sl (a lo hi : PX) : ev C (.sl a lo hi) ρ S = (ev C a ρ S).bind fun x S => (ev C lo ρ S).bind fun y S => (match y with
    | .int i => (ev C hi ρ S).bind fun z S => (match z with
      | .int j => R.ofO S (sliceV S x (some i) (some j))
      | _ => .err)
    | _ => .err) := by rw [ev] <;> rfl
@[simp] theorem ev_slf (a lo : PX) : ev C (.slf a lo) ρ S = (ev C a ρ S).bind fun x S => (ev C lo ρ S).bind fun y S => (match y with
    | .int i => R.ofO S (sliceV S x (some i) none)
    | _ => .err) := by rw [ev] <;> rfl
@[simp] theorem ev_slt (a hi : PX) : ev C (.slt a hi) ρ S = (ev C a ρ S).bind fun x S => (ev C hi ρ S).bind fun y S => (match y with
    | .int i => R.ofO S (sliceV S x none (some i))
    | _ => .err) := by rw [ev] <;> rfl
@[simp] theorem ev_rev (a : PX) : ev C (.rev a) ρ S = (ev C a ρ S).bind fun x S => (match x with
    | .tup xs => .ok (.tup xs.reverse) S
    | x => (match asList S x with
      | some xs => .ok (.lst xs.reverse) S
      | none => .err)) := by rw [ev] <;> rfl
@[simp] theorem ev_call (f : F) (es : PXs) : ev C (.call f es) ρ S = (evs C es ρ S).bind fun vs S => C f vs S := by rw [ev] <;> rfl
@[simp] theorem ev_callv (e : PX) (es : PXs) : ev C (.callv e es) ρ S = (ev C e ρ S).bind fun x S => (match x with
    | .fn f => (evs C es ρ S).bind fun vs S => C f vs S
    | _ => .err) := by rw [ev] <;> rfl
@[simp] theorem ev_blt (b : Blt) (es : PXs) : ev C (.blt b es) ρ S = (evs C es ρ S).bind fun vs S => R.ofO S (bltV S b vs) := by rw [ev] <;> rfl
@[simp] theorem ev_isi (a : PX) (t : Ty) : ev C (.isi a t) ρ S = (ev C a ρ S).bind fun x S => R.ofO S ((tyV S x t).map .bl) := by rw [ev] <;> rfl
@[simp] theorem ev_mth (m : Mth) (a : PX) (es : PXs) : ev C (.mth m a es) ρ S = (ev C a ρ S).bind fun x S => if isStr x then (evs C es ρ S).bind fun vs S => R.ofO S (mthV S m x vs) else .err := by rw [ev] <;> rfl
/-- what `_law_error` makes of it -/
def tellE : R PV → R PV
  | .ok _ S => .ok (.str Str.empty) S
  | .exc c _ S => .ok (.str c.told) S
  | .err => .err
@[simp] theorem tellE_ok (v : PV) : tellE (.ok v S) = .ok (.str Str.empty) S := eqOf rfl
@[simp] theorem tellE_exc (c : XC) (vs : List PV) : tellE (.exc c vs S) = .ok (.str c.told) S := eqOf rfl
@[simp] theorem ev_err (e : PX) : ev C (.err e) ρ S = tellE (ev C e ρ S) := by rw [ev]; rfl
@[simp] theorem evT_not (a : PX) : evT C (.not a) ρ S = (evT C a ρ S).bind fun b S => .ok (!b) S := by rw [evT] <;> rfl
@[simp] theorem evT_and (a b : PX) : evT C (.and a b) ρ S = (evT C a ρ S).bind fun k S => if k = true then evT C b ρ S else .ok false S := by rw [evT] <;> rfl
@[simp] theorem evT_or (a b : PX) : evT C (.or a b) ρ S = (evT C a ρ S).bind fun k S => if k = true then .ok true S else evT C b ρ S := by rw [evT] <;> rfl
@[simp] theorem evT_cst (v : PV) : evT C (.cst v) ρ S = R.ofO S (truthy S v) := by rw [evT] <;> rfl
@[simp] theorem evT_cmp (op : COp) (a b : PX) : evT C (.cmp op a b) ρ S = (ev C a ρ S).bind fun x S => (ev C b ρ S).bind fun y S => R.ofO S (cmpV S op x y) := by rw [evT] <;> rfl
@[simp] theorem evT_chain (o1 o2 : COp) (a b c : PX) : evT C (.chain o1 o2 a b c) ρ S = (ev C a ρ S).bind fun x S => (ev C b ρ S).bind fun y S => (R.ofO S (cmpV S o1 x y)).bind fun k S =>
      if k = true then (ev C c ρ S).bind fun z S => R.ofO S (cmpV S o2 y z) else .ok false S := by rw [evT] <;> rfl
@[simp] theorem evT_var (i : Nat) : evT C (.var i) ρ S = (R.ofO S (ρ[i]?.join)).bind fun x S => R.ofO S (truthy S x) := by rw [evT] <;> rfl
@[simp] theorem evT_call (f : F) (es : PXs) : evT C (.call f es) ρ S = ((evs C es ρ S).bind fun vs S => C f vs S).bind fun x S => R.ofO S (truthy S x) := by rw [evT] <;> rfl
@[simp] theorem evT_idx (a i : PX) : evT C (.idx a i) ρ S = ((ev C a ρ S).bind fun x S => (ev C i ρ S).bind fun y S => R.ofO S (idxV S x y)).bind fun x S => R.ofO S (truthy S x) := by rw [evT] <;> rfl
@[simp] theorem evT_isi (a : PX) (t : Ty) : evT C (.isi a t) ρ S = (ev C a ρ S).bind fun x S => R.ofO S (tyV S x t) := by rw [evT] <;> rfl
@[simp] theorem evT_blt (b : Blt) (es : PXs) : evT C (.blt b es) ρ S = ((evs C es ρ S).bind fun vs S => R.ofO S (bltV S b vs)).bind fun x S => R.ofO S (truthy S x) := by rw [evT] <;> rfl
@[simp] theorem evT_callv (e : PX) (es : PXs) : evT C (.callv e es) ρ S = ((ev C e ρ S).bind fun x S => (match x with
    | .fn f => (evs C es ρ S).bind fun vs S => C f vs S
    | _ => .err)).bind fun x S => R.ofO S (truthy S x) := by rw [evT] <;> rfl
@[simp] theorem evL_disp (es : PXs) : evL C (.disp es) ρ S = evs C es ρ S := by rw [evL] <;> rfl
def lr1Ok (j : Int) : Bool := small62 j && decide (j.toNat ≤ LIM)
def lr2Ok (i j : Int) : Bool := small62 i && small62 j && decide ((j - i).toNat ≤ LIM)
/-- list(range(v)) -/
def mkR1 (S : PSt) : PV → R (List PV)
  | .int j => if lr1Ok j = true then .ok (rngL 0 j.toNat) S else .err
  | _ => .err
def mkR2 (S : PSt) : PV → PV → R (List PV)
  | .int i, .int j => if lr2Ok i j = true then .ok (rngL i (j - i).toNat) S else .err
  | _, _ => .err
@[simp] theorem mkR1_int (j : Int) : mkR1 S (.int j) = if lr1Ok j = true then .ok (rngL 0 j.toNat) S else .err := eqOf rfl
@[simp] theorem mkR2_int (i j : Int) : mkR2 S (.int i) (.int j) = if lr2Ok i j = true then .ok (rngL i (j - i).toNat) S else .err := eqOf rfl
@[simp] theorem evL_lr1 (a : PX) : evL C (.lr1 a) ρ S = (ev C a ρ S).bind fun v S => mkR1 S v := by rw [evL] <;> rfl
@[simp] theorem evL_lr2 (a b : PX) : evL C (.lr2 a b) ρ S = (ev C a ρ S).bind fun v S => (ev C b ρ S).bind fun w S => mkR2 S v w := by rw [evL] <;> rfl
@[simp] theorem evL_ofl (e : PX) : evL C (.ofl e) ρ S = (ev C e ρ S).bind fun v S => R.ofO S (asSeq S v) := by rw [evL] <;> rfl
@[simp] theorem evL_cat (a b : PX) : evL C (.cat a b) ρ S = (ev C a ρ S).bind fun x S => (ev C b ρ S).bind fun y S => (match asList S x, asList S y with
    | some xs, some ys => if xs.length + ys.length ≤ LIM then .ok (xs ++ ys) S else .err
    | _, _ => .err) := by rw [evL] <;> rfl
@[simp] theorem evL_rep (a b : PX) : evL C (.rep a b) ρ S = (ev C a ρ S).bind fun x S => (ev C b ρ S).bind fun y S => (match asList S x, y with
    | some xs, .int k => if decide (-1000000 < k) && decide (k < 1000000) && decide (xs.length * k.toNat ≤ LIM) then .ok (List.replicate k.toNat xs).flatten S else .err
    | _, _ => .err) := by rw [evL] <;> rfl
@[simp] theorem evL_comp (own : List Nat) (t : Tg) (s : PXr) (c e : PX) : evL C (.comp own t s c e) ρ S = (evR C s ρ S).bind fun p S => (compL (turn1 t own (evT C c) (ev C e) ρ) p.2 p.1 S).bind capL := by rw [evL] <;> rfl
@[simp] theorem evL_comp2 (own : List Nat) (t : Tg) (s : PXr) (own2 : List Nat) (t2 : Tg) (s2 : PXr) (c e : PX) : evL C (.comp2 own t s own2 t2 s2 c e) ρ S = (evR C s ρ S).bind fun p S => (compL (turn2 t own (evR C s2) t2 own2 (evT C c) (ev C e) ρ) p.2 p.1 S).bind capL := by rw [evL] <;> rfl
@[simp] theorem evR_val (e : PX) : evR C (.val e) ρ S = (ev C e ρ S).bind fun v S => R.ofO S (srcL S v) := by rw [evR] <;> rfl
/-- range(v) -/
def mkG1 (S : PSt) : PV → R (List PV × Gd)
  | .int j => if small62 j then .ok (rngL 0 j.toNat, []) S else .err
  | _ => .err
def mkG2 (S : PSt) : PV → PV → R (List PV × Gd)
  | .int i, .int j => if small62 i && small62 j then .ok (rngL i (j - i).toNat, []) S else .err
  | _, _ => .err
@[simp] theorem mkG1_int (j : Int) : mkG1 S (.int j) = if small62 j = true then .ok (rngL 0 j.toNat, []) S else .err := eqOf rfl
@[simp] theorem mkG2_int (i j : Int) : mkG2 S (.int i) (.int j) = if (small62 i && small62 j) = true then .ok (rngL i (j - i).toNat, []) S else .err := eqOf rfl
@[simp] theorem evR_rng (a : PX) : evR C (.rng a) ρ S = (ev C a ρ S).bind fun v S => mkG1 S v := by rw [evR] <;> rfl
@[simp] theorem evR_rng2 (a b : PX) : evR C (.rng2 a b) ρ S = (ev C a ρ S).bind fun v S => (ev C b ρ S).bind fun w S => mkG2 S v w := by rw [evR] <;> rfl
def mkG3 (S : PSt) : PV → PV → PV → R (List PV × Gd)
  | .int i, .int j, .int k => if rng3Ok i j k then .ok ((List.range (Builtin.Range.rangeSize i j k).toNat).map fun t => .int (i + (t : Nat) * k), []) S else .err
  | _, _, _ => .err
@[simp] theorem evR_rng3 (a b c : PX) : evR C (.rng3 a b c) ρ S = (ev C a ρ S).bind fun v S => (ev C b ρ S).bind fun w S => (ev C c ρ S).bind fun z S => mkG3 S v w z := by rw [evR] <;> rfl
@[simp] theorem evR_zip (a b : PX) : evR C (.zip a b) ρ S = (ev C a ρ S).bind fun v S => (ev C b ρ S).bind fun w S => if isStr v || isStr w then .err else (match srcL S v, srcL S w with
    | some p, some q => .ok (zipL p.1 q.1, p.2 ++ q.2) S
    | _, _ => .err) := by rw [evR] <;> rfl
@[simp] theorem evR_enum (a : PX) : evR C (.enum a) ρ S = (ev C a ρ S).bind fun v S => (match v, srcL S v with
    | .tup _, _ => .err
    | .str _, _ => .err
    | _, some p => .ok (enumL 0 p.1, p.2) S
    | _, none => .err) := by rw [evR] <;> rfl
end
/-! ### operators of known kinds -/
section
variable (S : PSt) (i j : Int) (a b : Bool) (x y : PySem.Str) (xs ys : List PV) (n : Nat)
@[simp] theorem binV_ii : binV S .add (.int i) (.int j) = some (.int (i + j)) := eqOf rfl
@[simp] theorem binV_bi : binV S .add (.bl a) (.int j) = some (.int (b2i a + j)) := eqOf rfl
@[simp] theorem binV_ib : binV S .add (.int i) (.bl b) = some (.int (i + b2i b)) := eqOf rfl
@[simp] theorem binV_ss : binV S .add (.str x) (.str y) = if x.length + y.length ≤ LIM then some (.str (x ++ y)) else none := eqOf rfl
@[simp] theorem binV_tt : binV S .add (.tup xs) (.tup ys) = if xs.length + ys.length ≤ LIM then some (.tup (xs ++ ys)) else none := eqOf rfl
@[simp] theorem binV_ll : binV S .add (.lst xs) (.lst ys) = if xs.length + ys.length ≤ LIM then some (.lst (xs ++ ys)) else none := eqOf rfl
@[simp] theorem binV_sub : binV S .sub (.int i) (.int j) = some (.int (i - j)) := eqOf rfl
@[simp] theorem binV_subb : binV S .sub (.bl a) (.int j) = some (.int (b2i a - j)) := eqOf rfl
@[simp] theorem binV_mul : binV S .mul (.int i) (.int j) = if mulOk i j then some (.int (i * j)) else none := eqOf rfl
@[simp] theorem binV_mulb : binV S .mul (.int i) (.bl b) = some (.int (i * b2i b)) := eqOf rfl
@[simp] theorem binV_mull : binV S .mul (.lst xs) (.int j) = if decide (-1000000 < j) && decide (j < 1000000) && decide (xs.length * j.toNat ≤ LIM) then some (.lst (List.replicate j.toNat xs).flatten) else none := eqOf rfl
@[simp] theorem binV_mult : binV S .mul (.tup xs) (.int j) = if !xs.isEmpty && decide (2 ≤ j) && decide (j ≤ 1000) && decide (xs.length ≤ 1000) then some (.tup (List.replicate j.toNat xs).flatten) else none := eqOf rfl
@[simp] theorem binV_fdiv : binV S .fdiv (.int i) (.int j) = if divOk j then some (.int (i / j)) else none := eqOf rfl
@[simp] theorem binV_mod : binV S .mod (.int i) (.int j) = if 0 < j then some (.int (i % j)) else none := eqOf rfl
@[simp] theorem binV_pow : binV S .pow (.int i) (.int j) = if decide (0 ≤ j) && decide (j ≤ 1000000) && decide (i.natAbs < 2 ^ 64) then some (.int (i ^ j.toNat)) else none := eqOf rfl
@[simp] theorem cmpV_eq (u v : PV) : cmpV S .eq u v = eqV S u v := by cases u <;> rfl
@[simp] theorem cmpV_ne (u v : PV) : cmpV S .ne u v = (eqV S u v).map (!·) := by cases u <;> rfl
@[simp] theorem cmpV_lt : cmpV S .lt (.int i) (.int j) = some (decide (i < j)) := eqOf rfl
@[simp] theorem cmpV_le : cmpV S .le (.int i) (.int j) = some (decide (i ≤ j)) := eqOf rfl
@[simp] theorem cmpV_gt : cmpV S .gt (.int i) (.int j) = some (decide (j < i)) := eqOf rfl
@[simp] theorem cmpV_ge : cmpV S .ge (.int i) (.int j) = some (decide (j ≤ i)) := eqOf rfl
@[simp] theorem cmpV_is (v : PV) : cmpV S .is v .non = some (isNon v) := by cases v <;> rfl
@[simp] theorem cmpV_isnot (v : PV) : cmpV S .isnot v .non = some (!isNon v) := by cases v <;> rfl
@[simp] theorem cmpV_isb : cmpV S .is (.bl a) (.bl b) = some (decide (a = b)) := eqOf rfl
@[simp] theorem cmpV_isnotb : cmpV S .isnot (.bl a) (.bl b) = some (!decide (a = b)) := eqOf rfl
@[simp] theorem cmpV_inn_tup (v : PV) : cmpV S .inn v (.tup xs) = cmpV.inC S v (.tup xs) := by cases v <;> rfl
@[simp] theorem cmpV_inn_lst (v : PV) : cmpV S .inn v (.lst xs) = cmpV.inC S v (.lst xs) := by cases v <;> rfl
@[simp] theorem cmpV_notin_tup (v : PV) : cmpV S .notin v (.tup xs) = (cmpV.inC S v (.tup xs)).map (!·) := by cases v <;> rfl
@[simp] theorem cmpV_notin_lst (v : PV) : cmpV S .notin v (.lst xs) = (cmpV.inC S v (.lst xs)).map (!·) := by cases v <;> rfl
@[simp] theorem inC_tup (v : PV) : cmpV.inC S v (.tup xs) = if isData v && isDatas xs && decide (depth v ≤ 60) then some (inV v xs) else none := by
  unfold cmpV.inC
  simp [asSeq, notScr]
@[simp] theorem inC_lst (v : PV) : cmpV.inC S v (.lst xs) = if isData v && isDatas xs && decide (depth v ≤ 60) then some (inV v xs) else none := by
  unfold cmpV.inC
  simp [asSeq, asList, notScr]
@[simp] theorem isNon_int : isNon (.int i) = false := eqOf rfl
@[simp] theorem isNon_non : isNon .non = true := eqOf rfl
@[simp] theorem isNon_tup : isNon (.tup xs) = false := eqOf rfl
@[simp] theorem isNon_lst : isNon (.lst xs) = false := eqOf rfl
@[simp] theorem isNon_bl : isNon (.bl a) = false := eqOf rfl
@[simp] theorem isNon_str : isNon (.str x) = false := eqOf rfl
@[simp] theorem idxV_tup : idxV S (.tup xs) (.int i) = L2.atI xs i := eqOf rfl
@[simp] theorem idxV_lst : idxV S (.lst xs) (.int i) = L2.atI xs i := eqOf rfl
@[simp] theorem idxV_scr (ns : List Int) : idxV S (.scr ns) (.int i) = L2.atI (ns.map .int) i := eqOf rfl
@[simp] theorem asSeq_tup : asSeq S (.tup xs) = some xs := eqOf rfl
@[simp] theorem asSeq_lst : asSeq S (.lst xs) = some xs := eqOf rfl
@[simp] theorem asSeq_scr (ns : List Int) : asSeq S (.scr ns) = some (ns.map .int) := eqOf rfl
@[simp] theorem asList_lst : asList S (.lst xs) = some xs := eqOf rfl
@[simp] theorem bltV_len_tup : bltV S .len [.tup xs] = some (.int xs.length) := eqOf rfl
@[simp] theorem bltV_len_lst : bltV S .len [.lst xs] = some (.int xs.length) := eqOf rfl
@[simp] theorem bltV_len_scr (ns : List Int) : bltV S .len [.scr ns] = some (.int ns.length) := by
  show some (PV.int ((ns.map PV.int).length : Nat)) = _
  rw [List.length_map]
@[simp] theorem bltV_len_str : bltV S .len [.str x] = if x.length ≤ LIM then some (.int x.length) else none := eqOf rfl
@[simp] theorem bltV_abs : bltV S .abs [.int i] = some (.int (if i < 0 then -i else i)) := eqOf rfl
@[simp] theorem bltV_int : bltV S .int [.int i] = some (.int i) := eqOf rfl
@[simp] theorem bltV_intb : bltV S .int [.bl a] = some (.int (b2i a)) := eqOf rfl
@[simp] theorem bltV_ints : bltV S .int [.str x] = if x.length ≤ 600 then (PySem.intText? x).map .int else none := eqOf rfl
@[simp] theorem bltV_str : bltV S .str [.int i] = if i.natAbs.log2 < 1920 then some (.str (toString i)) else none := eqOf rfl
@[simp] theorem bltV_strb : bltV S .str [.bl a] = some (.str (if a then "True" else "False")) := eqOf rfl
@[simp] theorem bltV_strs : bltV S .str [.str x] = some (.str x) := eqOf rfl
@[simp] theorem bltV_tup : bltV S .tuple [.tup xs] = some (.tup xs) := eqOf rfl
@[simp] theorem bltV_tupl : bltV S .tuple [.lst xs] = some (.tup xs) := eqOf rfl
@[simp] theorem bltV_min : bltV S .min2 [.int i, .int j] = some (.int (if j < i then j else i)) := eqOf rfl
@[simp] theorem bltV_max : bltV S .max2 [.int i, .int j] = some (.int (if j > i then j else i)) := eqOf rfl
@[simp] theorem bltV_bool : bltV S .bool [.bl a] = some (.bl a) := eqOf rfl
@[simp] theorem truthy_non : truthy S .non = some false := eqOf rfl
@[simp] theorem truthy_bl : truthy S (.bl a) = some a := eqOf rfl
@[simp] theorem truthy_int : truthy S (.int i) = some (i != 0) := eqOf rfl
@[simp] theorem truthy_tup : truthy S (.tup xs) = some (!xs.isEmpty) := eqOf rfl
@[simp] theorem truthy_lst : truthy S (.lst xs) = some (!xs.isEmpty) := eqOf rfl
@[simp] theorem truthy_str : truthy S (.str x) = if x.length ≤ LIM then some ((x.length : Int) != 0) else none := eqOf rfl
@[simp] theorem tyV_non (t : Ty) : tyV S .non t = some false := eqOf rfl
@[simp] theorem tyV_bl (t : Ty) : tyV S (.bl a) t = some (t == .int || t == .bool) := eqOf rfl
@[simp] theorem tyV_int (t : Ty) : tyV S (.int i) t = some (t == .int) := eqOf rfl
@[simp] theorem tyV_str (t : Ty) : tyV S (.str x) t = some (t == .str) := eqOf rfl
@[simp] theorem tyV_tup (t : Ty) : tyV S (.tup xs) t = some (t == .tuple) := eqOf rfl
@[simp] theorem tyV_lst (t : Ty) : tyV S (.lst xs) t = some (t == .list) := eqOf rfl
@[simp] theorem isStr_str : isStr (.str x) = true := eqOf rfl
@[simp] theorem isStr_lst : isStr (.lst xs) = false := eqOf rfl
@[simp] theorem isStr_tup : isStr (.tup xs) = false := eqOf rfl
@[simp] theorem isStr_ref : isStr (.ref n) = false := eqOf rfl
@[simp] theorem sliceV_tup (lo hi : Option Int) : sliceV S (.tup xs) lo hi = some (.tup (cutP xs lo hi)) := eqOf rfl
@[simp] theorem sliceV_lst (lo hi : Option Int) : sliceV S (.lst xs) lo hi = some (.lst (cutP xs lo hi)) := eqOf rfl
@[simp] theorem sliceV_str (lo hi : Option Int) : sliceV S (.str x) lo hi = if x.length ≤ LIM then some (.str (L2.cutS x lo hi)) else none := eqOf rfl
@[simp] theorem srcL_tup : srcL S (.tup xs) = some (xs, []) := eqOf rfl
@[simp] theorem srcL_lst : srcL S (.lst xs) = some (xs, []) := eqOf rfl
@[simp] theorem srcL_str : srcL S (.str x) = some (x.cps.toList.map fun c => .str ⟨#[c]⟩, []) := eqOf rfl
@[simp] theorem mthV_split : mthV S .split (.str x) [.str y] = if decide (y.length = 1) && y.cps.all (· < 256) && decide (x.length + 2 ≤ LIM) then some (.lst ((Txt.split x y).map .str)) else none := eqOf rfl
@[simp] theorem mthV_join : mthV S .join (.str x) [.lst xs] = (match strsOf xs with
      | some ys => if decide ((ys.map (·.length)).sum + ys.length * x.length ≤ LIM) then some (.str (Txt.join x ys)) else none
      | none => none) := rfl
end
section
variable {S : PSt} {i : Int} {xs : List PV} {n : Nat} (ys : List PV)
theorem binV_rl (h : S[n]? = some (.lst xs)) : binV S .add (.ref n) (.lst ys) = if xs.length + ys.length ≤ LIM then some (.lst (xs ++ ys)) else none := by
  have e : asList S (.ref n) = some xs := by
    show (match S[n]? with | some (.lst xs) => some xs | _ => none) = _
    rw [h]
  show (match asList S (.ref n), asList S (.lst ys) with
    | some xs, some ys => if xs.length + ys.length ≤ LIM then some (PV.lst (xs ++ ys)) else none
    | _, _ => none) = _
  rw [e]
  rfl
theorem idxV_ref (h : S[n]? = some (.lst xs)) : idxV S (.ref n) (.int i) = L2.atI xs i := by
  show (match (match S[n]? with | some (.lst xs) => some xs | _ => none) with | some xs => L2.atI xs i | none => none) = _
  rw [h]
theorem asList_ref (h : S[n]? = some (.lst xs)) : asList S (.ref n) = some xs := by
  show (match S[n]? with | some (.lst xs) => some xs | _ => none) = _
  rw [h]
theorem bltV_len_ref (h : S[n]? = some (.lst xs)) : bltV S .len [.ref n] = some (.int xs.length) := by
  show (match (match S[n]? with | some (.lst xs) => some xs | _ => none) with | some xs => some (PV.int xs.length) | none => none) = _
  rw [h]
theorem bltV_tup_ref (h : S[n]? = some (.lst xs)) : bltV S .tuple [.ref n] = some (.tup xs) := by
  show (asList S (.ref n)).map PV.tup = _
  rw [asList_ref h]
  rfl
theorem srcL_ref (h : S[n]? = some (.lst xs)) : srcL S (.ref n) = some (xs, [(n, xs)]) := by
  show (match S[n]? with | some (.lst xs) => some (xs, [(n, xs)]) | _ => none) = _
  rw [h]
theorem isMut_ref (h : S[n]? = some (.lst xs)) : isMut S (.ref n) = true := by
  show (match S[n]? with | some (.lst _) => true | _ => false) = _
  rw [h]
theorem appV_ref (v : PV) (h : S[n]? = some (.lst xs)) : appV S (.ref n) v = if xs.length < LIM then some (S.set n (.lst (xs ++ [v]))) else none := by
  show (match S[n]? with | some (.lst xs) => if xs.length < LIM then some (S.set n (.lst (xs ++ [v]))) else none | _ => none) = _
  rw [h]
theorem setV_ref (v : PV) (h : S[n]? = some (.lst xs)) : setV S (.ref n) (.int i) v = (L2.ixN xs.length i).map fun k => S.set n (.lst (xs.set k v)) := by
  unfold setV
  simp only [h]
  cases L2.ixN xs.length i <;> rfl
end
/-! ### targets -/
@[simp] theorem bindT_nm (i : Nat) (v : PV) (ρ : Env) : bindT (.nm i) v ρ = if i < ρ.length then some (ρ.set i (some v)) else none := by rw [bindT]
@[simp] theorem bindT_tp (ts : List Tg) (xs : List PV) (ρ : Env) : bindT (.tp ts) (.tup xs) ρ = if ts.length = xs.length then bindTs ts xs ρ else none := by rw [bindT]
@[simp] theorem bindTs_nil (ρ : Env) : bindTs [] [] ρ = some ρ := by rw [bindTs]
@[simp] theorem bindTs_cons (t : Tg) (ts : List Tg) (x : PV) (xs : List PV) (ρ : Env) : bindTs (t :: ts) (x :: xs) ρ = (bindT t x ρ).bind (bindTs ts xs) := by
  rw [bindTs]
  cases bindT t x ρ <;> rfl
@[simp] theorem parE_nil (ρ : Env) : parE [] [] ρ = some ρ := by rw [parE]
@[simp] theorem parE_cons (i : Nat) (is : List Nat) (v : PV) (vs : List PV) (ρ : Env) : parE (i :: is) (v :: vs) ρ = if i < ρ.length then parE is vs (ρ.set i (some v)) else none := by rw [parE]
@[simp] theorem wipeE_nil (ρ : Env) : wipeE ρ [] = ρ := eqOf rfl
@[simp] theorem wipeE_cons (ρ : Env) (i : Nat) (r : List Nat) : wipeE ρ (i :: r) = (wipeE ρ r).set i none := eqOf rfl
end Pw
/-! Ma2: values, loops, draws. -/
namespace Pw
open PySem
/-! ### loops -/
@[simp] theorem gdOk_nil (S : PSt) : gdOk [] S := fun p hp => by cases hp
theorem cL_nil (f : PV → PSt → R (List PV)) (S : PSt) : compL f [] [] S = .ok [] S := by unfold compL; simp
theorem cL_cons (f : PV → PSt → R (List PV)) (x : PV) (xs : List PV) (S : PSt) : compL f [] (x :: xs) S = (f x S).bind fun o S' => (compL f [] xs S').bind fun r S'' => .ok (o ++ r) S'' := by
  rw [compL]
  simp
/-- on with the next items -/
def onF (f : PV → Env → PSt → R Fl) (xs : List PV) (fl : Fl) (S : PSt) : R Fl := match fl with
  | .nx ρ' => forL f [] xs ρ' S
  | .ret v => .ok (.ret v) S
@[simp] theorem onF_nx (f : PV → Env → PSt → R Fl) (xs : List PV) (ρ : Env) (S : PSt) : onF f xs (.nx ρ) S = forL f [] xs ρ S := eqOf rfl
@[simp] theorem onF_ret (f : PV → Env → PSt → R Fl) (xs : List PV) (v : PV) (S : PSt) : onF f xs (.ret v) S = .ok (.ret v) S := eqOf rfl
theorem fL_nil (f : PV → Env → PSt → R Fl) (ρ : Env) (S : PSt) : forL f [] [] ρ S = .ok (.nx ρ) S := by unfold forL; simp
theorem fL_cons (f : PV → Env → PSt → R Fl) (x : PV) (xs : List PV) (ρ : Env) (S : PSt) : forL f [] (x :: xs) ρ S = (f x ρ S).bind (onF f xs) := by
  rw [forL]
  simp
  rfl
theorem compL_flat {f : PV → PSt → R (List PV)} {S : PSt} {h : PV → List PV} : ∀ {xs : List PV}, (∀ x ∈ xs, f x S = .ok (h x) S) → compL f [] xs S = .ok (xs.flatMap h) S
  | [], _ => by unfold compL; simp
  | x :: xs, hf => by
    unfold compL
    rw [if_pos (gdOk_nil S), hf x List.mem_cons_self, R.bind_ok, compL_flat fun y hy => hf y (List.mem_cons_of_mem _ hy)]
    rfl
/-- each item gives one -/
theorem compL_map {f : PV → PSt → R (List PV)} {S : PSt} {h : PV → PV} {xs : List PV} (hf : ∀ x ∈ xs, f x S = .ok [h x] S) : compL f [] xs S = .ok (xs.map h) S := by
  rw [compL_flat (h := fun x => [h x]) hf]
  congr 1
  clear hf
  induction xs with
  | nil => rfl
  | cons x xs ih => rw [List.flatMap_cons, ih]; rfl
theorem compL_enc {α : Type} {f : PV → PSt → R (List PV)} {S : PSt} (enc g : α → PV) : ∀ (l : List α), (∀ i ∈ l, f (enc i) S = .ok [g i] S) → compL f [] (l.map enc) S = .ok (l.map g) S
  | [], _ => by rw [List.map_nil, cL_nil]; rfl
  | i :: l, h => by
    rw [List.map_cons, cL_cons, h i List.mem_cons_self, R.bind_ok, compL_enc enc g l fun j hj => h j (List.mem_cons_of_mem _ hj)]
    rfl
/-- those with a mark -/
theorem compL_filter {f : PV → PSt → R (List PV)} {S : PSt} {p : PV → Bool} {xs : List PV} (hf : ∀ x ∈ xs, f x S = .ok (if p x = true then [x] else []) S) : compL f [] xs S = .ok (xs.filter p) S := by
  rw [compL_flat (h := fun x => if p x = true then [x] else []) hf]
  congr 1
  clear hf
  induction xs with
  | nil => rfl
  | cons x xs ih =>
    rw [List.flatMap_cons, ih, List.filter_cons]
    split <;> rfl
/-- by an invariant over the items that are left -/
theorem compL_inv {f : PV → PSt → R (List PV)} (I : List PV → List PV → PSt → Prop) (hs : ∀ x xs o S, I (x :: xs) o S → ∃ r S', f x S = .ok r S' ∧ I xs (o ++ r) S') : ∀ (xs o : List PV) (S : PSt), I xs o S → ∃ r S', compL f [] xs S = .ok r S' ∧ I [] (o ++ r) S'
  | [], o, S, h => ⟨[], S, by unfold compL; simp, by simpa using h⟩
  | x :: xs, o, S, h => by
    obtain ⟨r1, S1, e1, h1⟩ := hs x xs o S h
    obtain ⟨r2, S2, e2, h2⟩ := compL_inv I hs xs (o ++ r1) S1 h1
    refine ⟨r1 ++ r2, S2, ?_, by rw [← List.append_assoc]; exact h2⟩
    unfold compL
    rw [if_pos (gdOk_nil S), e1, R.bind_ok, e2]
    rfl
theorem forL_inv {f : PV → Env → PSt → R Fl} (I : List PV → Env → PSt → Prop) (hs : ∀ x xs ρ S, I (x :: xs) ρ S → ∃ ρ' S', f x ρ S = .ok (.nx ρ') S' ∧ I xs ρ' S') : ∀ (xs : List PV) (ρ : Env) (S : PSt), I xs ρ S → ∃ ρ' S', forL f [] xs ρ S = .ok (.nx ρ') S' ∧ I [] ρ' S'
  | [], ρ, S, h => ⟨ρ, S, by unfold forL; simp, h⟩
  | x :: xs, ρ, S, h => by
    obtain ⟨ρ1, S1, e1, h1⟩ := hs x xs ρ S h
    obtain ⟨ρ2, S2, e2, h2⟩ := forL_inv I hs xs ρ1 S1 h1
    refine ⟨ρ2, S2, ?_, h2⟩
    unfold forL
    rw [if_pos (gdOk_nil S), e1, R.bind_ok]
    exact e2
/-- a fold -/
theorem forL_fold {f : PV → Env → PSt → R Fl} {S : PSt} {α : Type} (E : α → Env) (g : α → PV → α) : ∀ (xs : List PV) (a : α), (∀ x ∈ xs, ∀ a, f x (E a) S = .ok (.nx (E (g a x))) S) → forL f [] xs (E a) S = .ok (.nx (E (xs.foldl g a))) S
  | [], a, _ => by unfold forL; simp
  | x :: xs, a, h => by
    unfold forL
    rw [if_pos (gdOk_nil S), h x List.mem_cons_self a, R.bind_ok]
    exact forL_fold E g xs (g a x) fun y hy => h y (List.mem_cons_of_mem _ hy)
/-- the same, with what holds of the state -/
theorem forL_runI {α β : Type} {f : PV → Env → PSt → R Fl} {S : PSt} (E : α → Option PV → Env) (enc : β → PV) (step : α → β → α) (P : β → Prop) (I : α → Prop) (h : ∀ a u x, I a → P x → f (enc x) (E a u) S = .ok (.nx (E (step a x) (some (enc x)))) S ∧ I (step a x)) : ∀ (xs : List β) (a : α) (u : Option PV), I a → (∀ x ∈ xs, P x) → (∃ u', forL f [] (xs.map enc) (E a u) S = .ok (.nx (E (xs.foldl step a) u')) S) ∧ I (xs.foldl step a)
  | [], a, u, hi, _ => ⟨⟨u, by unfold forL; simp⟩, hi⟩
  | x :: xs, a, u, hi, hp => by
    obtain ⟨h1, h2⟩ := h a u x hi (hp x List.mem_cons_self)
    obtain ⟨⟨u', e⟩, h3⟩ := forL_runI E enc step P I h xs (step a x) (some (enc x)) h2 fun y hy => hp y (List.mem_cons_of_mem _ hy)
    refine ⟨⟨u', ?_⟩, h3⟩
    rw [List.map_cons, fL_cons, h1, R.bind_ok]
    exact e
/-- a loop that carries a state; its variable's slot holds the last item -/
theorem forL_run {α β : Type} {f : PV → Env → PSt → R Fl} {S : PSt} (E : α → Option PV → Env) (enc : β → PV) (step : α → β → α) (P : β → Prop) (h : ∀ a u x, P x → f (enc x) (E a u) S = .ok (.nx (E (step a x) (some (enc x)))) S) : ∀ (xs : List β) (a : α) (u : Option PV), (∀ x ∈ xs, P x) → ∃ u', forL f [] (xs.map enc) (E a u) S = .ok (.nx (E (xs.foldl step a) u')) S
  | [], a, u, _ => ⟨u, by unfold forL; simp⟩
  | x :: xs, a, u, hp => by
    obtain ⟨u', e⟩ := forL_run E enc step P h xs (step a x) (some (enc x)) fun y hy => hp y (List.mem_cons_of_mem _ hy)
    refine ⟨u', ?_⟩
    rw [List.map_cons]
    unfold forL
    rw [if_pos (gdOk_nil S), h a u x (hp x List.mem_cons_self), R.bind_ok]
    exact e
/-! ### draws -/
def VB : Int := 2147483630
def Vat (n : Nat) (S : PSt) : Prop := ∃ a b : Int, S[n]? = some (.lst [.int a, .int b]) ∧ 0 ≤ a ∧ 0 ≤ b ∧ b < VB
/-- the vat alone is another one -/
def Dr (n : Nat) (S S' : PSt) : Prop := ∃ a b : Int, S' = S.set n (.lst [.int a, .int b]) ∧ 0 ≤ a ∧ 0 ≤ b ∧ b < VB
theorem Vat.dr {n : Nat} {S : PSt} (h : Vat n S) : Dr n S S := by
  obtain ⟨a, b, e, h⟩ := h
  refine ⟨a, b, ?_, h⟩
  apply List.ext_getElem?
  intro i
  by_cases z : n = i
  · subst z
    rw [e, List.getElem?_set_self (List.getElem?_eq_some_iff.mp e).1]
  · rw [List.getElem?_set_ne z]
theorem Dr.len {n : Nat} {S S' : PSt} (h : Dr n S S') : S'.length = S.length := by
  obtain ⟨a, b, rfl, _⟩ := h
  simp
theorem Dr.vat {n : Nat} {S S' : PSt} (v : Vat n S) (h : Dr n S S') : Vat n S' := by
  obtain ⟨a, b, rfl, h⟩ := h
  obtain ⟨_, _, e, _⟩ := v
  exact ⟨a, b, List.getElem?_set_self (List.getElem?_eq_some_iff.mp e).1, h⟩
theorem Dr.trans {n : Nat} {S S' S'' : PSt} (h : Dr n S S') (g : Dr n S' S'') : Dr n S S'' := by
  obtain ⟨a, b, rfl, _⟩ := h
  obtain ⟨a', b', rfl, g⟩ := g
  exact ⟨a', b', by rw [List.set_set], g⟩
theorem Dr.get {n m : Nat} {S S' : PSt} (h : Dr n S S') (z : n ≠ m) : S'[m]? = S[m]? := by
  obtain ⟨a, b, rfl, _⟩ := h
  exact List.getElem?_set_ne z
@[simp] theorem fin_len {c : Bool} {n : Nat} {S : PSt} {v : PV} (h : S.length = n) : fin c n v S = .ok v S := by subst h; exact fin_same
theorem divOk_small {j : Int} (h1 : 0 < j) (h2 : j < 1073741824) : divOk j = true := by
  unfold divOk
  simp [h1, h2]
theorem mulOk_r {i j : Int} (h1 : -(2 ^ 64) < j) (h2 : j < 2 ^ 64) : mulOk i j = true := by
  unfold mulOk
  have h1 : (-18446744073709551616 : Int) < j := h1
  have h2 : j < (18446744073709551616 : Int) := h2
  simp [h1, h2]
theorem r_under {d n : Nat} {many : Int} {S : PSt} (v : Vat n S) (h1 : 0 < many) (h2 : many < 1073741824) : ∃ i S', run T (d + 1) .l_under [.ref n, .int many] S = .ok (.int i) S' ∧ 0 ≤ i ∧ i < many ∧ Dr n S S' := by
  obtain ⟨a, b, e, ha, hb, hb2⟩ := v
  have hn := (List.getElem?_eq_some_iff.mp e).1
  rw [run_eq d_l_under rfl rfl rfl]
  have dm := divOk_small h1 h2
  by_cases h : 0 < a
  · refine ⟨a % many, S.set n (.lst [.int (a / many), .int b]), ?_, Int.emod_nonneg _ (by omega), Int.emod_lt_of_pos _ h1, ⟨_, _, rfl, Int.ediv_nonneg ha (by omega), hb, hb2⟩⟩
    simp [d_l_under, idxV_ref e, setV_ref _ e, L2.atI, L2.ixN, h, h1, dm]
  · have h0 : a = 0 := by omega
    subst h0
    have m1 : mulOk b 39373 = true := mulOk_r (by decide) (by decide)
    have g1 : (0 : Int) ≤ (b * 39373 + 101) % 2147483629 := Int.emod_nonneg _ (by decide)
    have g2 : (b * 39373 + 101) % 2147483629 < 2147483629 := Int.emod_lt_of_pos _ (by decide)
    generalize hc : (b * 39373 + 101) % 2147483629 = c at g1 g2
    have d5 : divOk 5 = true := by decide
    have d32 : divOk 32 = true := by decide
    have m2 : mulOk c (c / 5 + 9) = true := mulOk_r (by omega) (by omega)
    refine ⟨(c * (c / 5 + 9) % 2147483587 / 32) % many, S.set n (.lst [.int 0, .int c]), ?_, Int.emod_nonneg _ (by omega), Int.emod_lt_of_pos _ h1, ⟨_, _, rfl, by omega, g1, by unfold VB; omega⟩⟩
    have e2 : (S.set n (.lst [.int 0, .int c]))[n]? = some (.lst [.int 0, .int c]) := List.getElem?_set_self hn
    simp [d_l_under, idxV_ref e, setV_ref _ e, L2.atI, L2.ixN, h1, dm, m1, hc, idxV_ref e2, d5, d32, m2]
end Pw
/-! Ma3: what all laws draw. -/
namespace Pw
open PySem
theorem atI_nat {α : Type} (xs : List α) (i : Nat) : L2.atI xs (i : Int) = xs[i]? := by
  unfold L2.atI L2.ixN
  rw [if_pos (by omega)]
  by_cases h : i < xs.length
  · rw [if_pos (by omega)]
    simp
  · rw [if_neg (by omega), List.getElem?_eq_none (by omega)]
    rfl
theorem atI_ok {α : Type} {xs : List α} {i : Int} (h1 : 0 ≤ i) (h2 : i < xs.length) : ∃ x, L2.atI xs i = some x ∧ x ∈ xs := by
  obtain ⟨n, rfl⟩ := Int.eq_ofNat_of_zero_le h1
  rw [atI_nat]
  have hn : n < xs.length := by omega
  exact ⟨xs[n], List.getElem?_eq_getElem hn, List.getElem_mem hn⟩
theorem r_some {d n : Nat} {xs : List PV} {v : PV} {S : PSt} (vt : Vat n S) (hv : v = .tup xs ∨ v = .lst xs) (h1 : 0 < xs.length) (h2 : xs.length < 1073741824) : ∃ x S', run T (d + 2) .l_some [.ref n, v] S = .ok x S' ∧ x ∈ xs ∧ Dr n S S' := by
  obtain ⟨i, S', e, g1, g2, dr⟩ := r_under (d := d) (many := xs.length) vt (by omega) (by omega)
  obtain ⟨x, e2, hx⟩ := atI_ok g1 g2
  refine ⟨x, S', ?_, hx, dr⟩
  rw [run_eq d_l_some rfl rfl rfl]
  have hl := dr.len
  rcases hv with rfl | rfl <;> simp [d_l_some, e, e2, hl]
theorem r_vat {d : Nat} {ns : List Int} {k : Nat} {S : PSt} (hk : k < 1000) : ∃ S', run T (d + 1) .l_vat [.scr ns, .int k] S = .ok (.ref S.length) S' ∧ Vat S.length S' ∧ ∃ o, S' = S ++ [o] := by
  have m1 : mulOk 7919 k = true := mulOk_r (by omega) (by omega)
  have m2 : ∀ c, mulOk c 131071 = true := fun c => mulOk_r (by decide) (by decide)
  have m3 : mulOk 8191 k = true := mulOk_r (by omega) (by omega)
  obtain ⟨c, hc, ec⟩ : ∃ c : Int, 0 ≤ c ∧ c = if (k : Int) < ns.length then (if ns.getD k 0 < 0 then - ns.getD k 0 else ns.getD k 0) else 7919 * k + 43 := ⟨_, by split <;> (try split) <;> omega, rfl⟩
  have g1 : (0 : Int) ≤ (c * 131071 + 8191 * k + 5) % 2147483629 := Int.emod_nonneg _ (by decide)
  have g2 : (c * 131071 + 8191 * k + 5) % 2147483629 < 2147483629 := Int.emod_lt_of_pos _ (by decide)
  refine ⟨S ++ [.lst [.int (if 1000000000000000000 ≤ c then c else 0), .int ((c * 131071 + 8191 * k + 5) % 2147483629 + 1)]], ?_, ⟨if 1000000000000000000 ≤ c then c else 0, (c * 131071 + 8191 * k + 5) % 2147483629 + 1, by simp, by split <;> omega, by omega, by unfold VB; omega⟩, _, rfl⟩
  rw [run_eq d_l_vat rfl rfl rfl]
  by_cases h : k < ns.length
  · have e1 : (if (k : Int) < ns.length then (if ns.getD k 0 < 0 then - ns.getD k 0 else ns.getD k 0) else 7919 * k + 43) = (if ns[k] < 0 then - ns[k] else ns[k]) := by
      rw [if_pos (by omega)]
      simp [List.getD, h]
    rw [e1] at ec
    subst ec
    by_cases h3 : 1000000000000000000 ≤ (if ns[k] < 0 then - ns[k] else ns[k]) <;>
    simp [d_l_vat, m1, m2, m3, h, atI_nat, h3, fin]
  · rw [if_neg (by omega)] at ec
    have h3 : ¬ 1000000000000000000 ≤ c := by omega
    have ec := ec.symm
    simp [d_l_vat, m1, m2, m3, h, ec, h3, fin]
end Pw
/-! Ma4: wardrobes, rails, whole numbers. -/
namespace Pw
open PySem
variable {d : Nat} {S : PSt}
def isWhole : PV → Int → Int → Bool
  | .int i, lo, hi => decide (lo ≤ i) && decide (i ≤ hi)
  | _, _, _ => false
@[simp] theorem isDatas_nil : isDatas [] = true := eqOf rfl
@[simp] theorem isDatas_cons (x : PV) (xs : List PV) : isDatas (x :: xs) = (isData x && isDatas xs) := eqOf rfl
@[simp] theorem isData_tup (xs : List PV) : isData (.tup xs) = isDatas xs := eqOf rfl
@[simp] theorem isData_lst (xs : List PV) : isData (.lst xs) = isDatas xs := eqOf rfl
@[simp] theorem isData_int (i : Int) : isData (.int i) = true := eqOf rfl
@[simp] theorem isData_bl (i : Bool) : isData (.bl i) = true := eqOf rfl
@[simp] theorem isData_str (i : PySem.Str) : isData (.str i) = true := eqOf rfl
@[simp] theorem isData_non : isData .non = true := eqOf rfl
@[simp] theorem isData_ref (n : Nat) : isData (.ref n) = false := eqOf rfl
@[simp] theorem isData_fn (n : F) : isData (.fn n) = false := eqOf rfl
@[simp] theorem isData_cls (n : XC) : isData (.cls n) = false := eqOf rfl
@[simp] theorem isData_exn (n : XC) (vs : List PV) : isData (.exn n vs) = false := eqOf rfl
@[simp] theorem isData_scr (ns : List Int) : isData (.scr ns) = false := eqOf rfl
theorem isDatas_mem {xs : List PV} : isDatas xs = true ↔ ∀ x ∈ xs, isData x = true := by
  induction xs with
  | nil => simp
  | cons x xs ih => simp [ih]
theorem isDatas_filter {xs : List PV} {p : PV → Bool} (h : isDatas xs = true) : isDatas (xs.filter p) = true :=
  isDatas_mem.mpr fun x hx => isDatas_mem.mp h x (List.mem_filter.mp hx).1
@[simp] theorem r_is_whole {v : PV} {lo hi : Int} (h : isData v = true) : run T (d + 1) .is_whole [v, .int lo, .int hi] S = .ok (.bl (isWhole v lo hi)) S := by
  rw [run_eq d_is_whole rfl rfl rfl]
  cases v <;> simp [d_is_whole, isWhole] at h ⊢
  split <;> simp_all <;> omega
@[simp] theorem r_l_is_whole {v : PV} {lo hi : Int} (h : isData v = true) : run T (d + 1) .l_is_whole [v, .int lo, .int hi] S = .ok (.bl (isWhole v lo hi)) S := by
  rw [run_eq d_l_is_whole rfl rfl rfl]
  cases v <;> simp [d_l_is_whole, isWhole] at h ⊢
  split <;> simp_all <;> omega
def hasW : PV → Bool
  | .tup [a, b, c] => isWhole a 1 1000000 && isWhole b 1 3 && isWhole c 1 3
  | _ => false
@[simp] theorem atI_0 {α : Type} (x : α) (xs : List α) : L2.atI (x :: xs) 0 = some x := by simp [L2.atI, L2.ixN]
@[simp] theorem atI_1 {α : Type} (x y : α) (xs : List α) : L2.atI (x :: y :: xs) 1 = some y := by
  have := atI_nat (x :: y :: xs) 1
  simpa using this
@[simp] theorem atI_2 {α : Type} (x y z : α) (xs : List α) : L2.atI (x :: y :: z :: xs) 2 = some z := by
  have := atI_nat (x :: y :: z :: xs) 2
  simpa using this
@[simp] theorem atI_3 {α : Type} (x y z u : α) (xs : List α) : L2.atI (x :: y :: z :: u :: xs) 3 = some u := by
  have := atI_nat (x :: y :: z :: u :: xs) 3
  simpa using this
theorem eqI (S : PSt) (i j : Int) : eqV S (.int i) (.int j) = some (decide (i = j)) := by
  simp [eqV, top1, isData, depth, pyEq]
  rfl
theorem len3 {xs : List PV} : xs.length = 3 → ∃ a b c, xs = [a, b, c] := fun h => by
  rcases xs with _ | ⟨a, _ | ⟨b, _ | ⟨c, _ | ⟨e, r⟩⟩⟩⟩ <;> simp at h
  exact ⟨a, b, c, rfl⟩
@[simp] theorem hasW_len {xs : List PV} (h : xs.length ≠ 3) : hasW (.tup xs) = false := by
  rcases xs with _ | ⟨a, _ | ⟨b, _ | ⟨c, _ | ⟨e, r⟩⟩⟩⟩ <;> first | rfl | simp at h
theorem r_has_wardrobe {v : PV} (h : isData v = true) : run T (d + 2) .has_wardrobe [v] S = .ok (.bl (hasW v)) S := by
  rw [run_eq d_has_wardrobe rfl rfl rfl]
  cases v with
  | tup xs =>
    by_cases hl : xs.length = 3
    · obtain ⟨a, b, c, rfl⟩ := len3 hl
      simp at h
      simp [d_has_wardrobe, eqI, h, hasW]
      cases isWhole a 1 1000000 <;> cases isWhole b 1 3 <;> simp
    · have hl' : ((xs.length : Int) = 3) = False := by simp; omega
      simp [d_has_wardrobe, eqI, hl', hl]
  | ref n => simp at h
  | fn f => simp at h
  | cls c => simp at h
  | exn c vs => simp at h
  | scr ns => simp at h
  | _ => simp [d_has_wardrobe, hasW]
theorem r_need_wardrobe {v : PV} (h : isData v = true) : run T (d + 3) .need_wardrobe [v] S = if hasW v = true then .ok .non S else .exc .InvalidWardrobe [] S := by
  rw [run_eq d_need_wardrobe rfl rfl rfl]
  simp [d_need_wardrobe, r_has_wardrobe h]
  cases hasW v <;> simp
/-- a wardrobe -/
def wd (w f b : Nat) : PV := .tup [.int w, .int f, .int b]
/-- few doors -/
structure Wd (w f b : Nat) : Prop where
  w1 : 1 ≤ w
  w2 : w ≤ 1000000
  f1 : 1 ≤ f
  f2 : f ≤ 3
  b1 : 1 ≤ b
  b2 : b ≤ 3
theorem Wd.has {w f b : Nat} (h : Wd w f b) : hasW (wd w f b) = true := by
  obtain ⟨h1, h2, h3, h4, h5, h6⟩ := h
  simp [wd, hasW, isWhole]
  omega
@[simp] theorem wd_data {w f b : Nat} : isData (wd w f b) = true := eqOf rfl
/-- the doors' numbers from lo on -/
def drs (lo n : Nat) : List PV := (List.range n).map fun i => .int ((lo + i : Nat) : Int)
theorem rngL_drs (lo n : Nat) : rngL lo n = drs lo n := by
  unfold rngL drs
  exact List.map_congr_left fun i _ => by simp
theorem rngL_drs0 (n : Nat) : rngL 0 n = drs 0 n := by
  unfold rngL drs
  exact List.map_congr_left fun i _ => by simp
def rail (f b : Nat) (k : Nat) : List PV := if k = 0 then drs 0 f else drs f b
theorem small_i {i : Int} (h1 : -1000000000 ≤ i) (h2 : i ≤ 1000000000) : small62 i = true := by
  unfold small62
  rw [Bool.and_eq_true]
  exact ⟨decide_eq_true (by omega), decide_eq_true (by omega)⟩
theorem lim_n {n : Nat} (h : n ≤ 1000000) : n ≤ LIM := by
  have : LIM = 16777216 := rfl
  omega
theorem lim_i {i : Int} (h : i ≤ 1000000) : i.toNat ≤ LIM := lim_n (by omega)
theorem lr1_ok {i : Int} (h1 : -1000000 ≤ i) (h2 : i ≤ 1000000) : lr1Ok i = true := by
  unfold lr1Ok
  rw [Bool.and_eq_true]
  exact ⟨small_i (by omega) (by omega), decide_eq_true (lim_i h2)⟩
theorem lr2_ok {i j : Int} (h1 : 0 ≤ i) (h2 : -1000000 ≤ j) (h3 : i ≤ 1000000) (h4 : j ≤ 1000000) : lr2Ok i j = true := by
  unfold lr2Ok
  rw [Bool.and_eq_true, Bool.and_eq_true]
  exact ⟨⟨small_i (by omega) (by omega), small_i (by omega) (by omega)⟩, decide_eq_true (lim_i (by omega))⟩
theorem r_doors_of {w f b k : Nat} (h : Wd w f b) : run T (d + 1) .doors_of [wd w f b, .int k] S = .ok (.lst (rail f b k)) S := by
  obtain ⟨h1, h2, h3, h4, h5, h6⟩ := h
  rw [run_eq d_doors_of rfl rfl rfl]
  by_cases hk : k = 0
  · subst hk
    have s1 : lr1Ok (f : Int) = true := lr1_ok (by omega) (by omega)
    simp [d_doors_of, wd, eqI, s1, rngL_drs0, rail]
  · have s2 : lr2Ok f (f + b) = true := lr2_ok (by omega) (by omega) (by omega) (by omega)
    have l1 : ((f : Int) + b - f) = b := by omega
    simp [d_doors_of, wd, eqI, s2, l1, hk, rngL_drs, rail]
theorem r_rails {w f b : Nat} (h : Wd w f b) : run T (d + 1) .l_rails [wd w f b] S = .ok (.lst [.lst (drs 0 f), .lst (drs f b)]) S := by
  obtain ⟨h1, h2, h3, h4, h5, h6⟩ := h
  rw [run_eq d_l_rails rfl rfl rfl]
  have s1 : lr1Ok (f : Int) = true := lr1_ok (by omega) (by omega)
  have s2 : lr2Ok f (f + b) = true := lr2_ok (by omega) (by omega) (by omega) (by omega)
  have l1 : ((f : Int) + b - f) = b := by omega
  simp [d_l_rails, wd, s1, s2, l1, rngL_drs, rngL_drs0]
theorem r_wardrobe {n : Nat} (v : Vat n S) : ∃ w f b S', run T (d + 2) .l_wardrobe [.ref n, .int 6] S = .ok (wd w f b) S' ∧ 4 ≤ w ∧ w ≤ 12 ∧ Wd w f b ∧ Dr n S S' := by
  obtain ⟨i1, S1, e1, a1, b1, d1⟩ := r_under (d := d) (many := 3) v (by omega) (by omega)
  obtain ⟨i2, S2, e2, a2, b2, d2⟩ := r_under (d := d) (many := 9) (d1.vat v) (by omega) (by omega)
  obtain ⟨i3, S3, e3, a3, b3, d3⟩ := r_under (d := d) (many := if 6 - (1 + i1) < 3 then 6 - (1 + i1) else 3) (d2.vat (d1.vat v)) (by split <;> omega) (by split <;> omega)
  obtain ⟨f, rfl⟩ := Int.eq_ofNat_of_zero_le a1
  obtain ⟨w, rfl⟩ := Int.eq_ofNat_of_zero_le a2
  obtain ⟨b, rfl⟩ := Int.eq_ofNat_of_zero_le a3
  refine ⟨4 + w, 1 + f, 1 + b, S3, ?_, by omega, by omega, ⟨by omega, by omega, by omega, by omega, by omega, by split at b3 <;> omega⟩, d1.trans (d2.trans d3)⟩
  have hl := d1.len
  have hl2 := d2.len
  have hl3 := d3.len
  rw [run_eq d_l_wardrobe rfl rfl rfl]
  simp [d_l_wardrobe, e1, e2, e3, hl, hl2, hl3, wd]
end Pw
/-! Ma5: any values, drawn and bent. -/
namespace Pw
open PySem
variable {d : Nat} {S : PSt}
mutual
/-- data of no great size -/
def nice (n : Nat) : PV → Bool
  | .non | .bl _ => true
  | .int i => decide (i.natAbs.log2 < n + 200)
  | .str x => decide (x.length ≤ n + 2000)
  | .tup xs | .lst xs => decide (xs.length ≤ n + 100) && nices n xs
  | _ => false
def nices (n : Nat) : List PV → Bool
  | [] => true
  | x :: xs => nice n x && nices n xs
end
@[simp] theorem nices_nil (n : Nat) : nices n [] = true := eqOf rfl
@[simp] theorem nices_cons (n : Nat) (x : PV) (xs : List PV) : nices n (x :: xs) = (nice n x && nices n xs) := eqOf rfl
@[simp] theorem nice_tup (n : Nat) (xs : List PV) : nice n (.tup xs) = (decide (xs.length ≤ n + 100) && nices n xs) := eqOf rfl
@[simp] theorem nice_lst (n : Nat) (xs : List PV) : nice n (.lst xs) = (decide (xs.length ≤ n + 100) && nices n xs) := eqOf rfl
@[simp] theorem nice_int (n : Nat) (i : Int) : nice n (.int i) = decide (i.natAbs.log2 < n + 200) := eqOf rfl
@[simp] theorem nice_str (n : Nat) (x : PySem.Str) : nice n (.str x) = decide (x.length ≤ n + 2000) := eqOf rfl
@[simp] theorem nice_bl (n : Nat) (b : Bool) : nice n (.bl b) = true := eqOf rfl
@[simp] theorem nice_non (n : Nat) : nice n .non = true := eqOf rfl
theorem nices_mem {n : Nat} {xs : List PV} : nices n xs = true ↔ ∀ x ∈ xs, nice n x = true := by
  induction xs with
  | nil => simp
  | cons x xs ih => simp [ih]
mutual
theorem nice_data {n : Nat} : ∀ {v : PV}, nice n v = true → isData v = true
  | .non, _ => rfl
  | .bl _, _ => rfl
  | .int _, _ => rfl
  | .str _, _ => rfl
  | .tup xs, h => by
    simp at h
    exact nices_data h.2
  | .lst xs, h => by
    simp at h
    exact nices_data h.2
  | .ref _, h => by cases h
  | .fn _, h => by cases h
  | .cls _, h => by cases h
  | .exn _ _, h => by cases h
  | .scr _, h => by cases h
theorem nices_data {n : Nat} : ∀ {vs : List PV}, nices n vs = true → isDatas vs = true
  | [], _ => rfl
  | x :: xs, h => by
    simp at h
    simp [nice_data h.1, nices_data h.2]
end
mutual
theorem nice_mono {n m : Nat} (hm : n ≤ m) : ∀ {v : PV}, nice n v = true → nice m v = true
  | .non, _ => rfl
  | .bl _, _ => rfl
  | .int _, h => by
    simp at h ⊢
    omega
  | .str _, h => by
    simp at h ⊢
    omega
  | .tup xs, h => by
    simp at h ⊢
    exact ⟨by omega, nices_mono hm h.2⟩
  | .lst xs, h => by
    simp at h ⊢
    exact ⟨by omega, nices_mono hm h.2⟩
  | .ref _, h => by cases h
  | .fn _, h => by cases h
  | .cls _, h => by cases h
  | .exn _ _, h => by cases h
  | .scr _, h => by cases h
theorem nices_mono {n m : Nat} (hm : n ≤ m) : ∀ {vs : List PV}, nices n vs = true → nices m vs = true
  | [], _ => rfl
  | x :: xs, h => by
    simp at h ⊢
    exact ⟨nice_mono hm h.1, nices_mono hm h.2⟩
end
@[simp] theorem depth_non : depth .non = 0 := eqOf rfl
@[simp] theorem depth_int (i : Int) : depth (.int i) = 0 := eqOf rfl
@[simp] theorem depth_bl (i : Bool) : depth (.bl i) = 0 := eqOf rfl
@[simp] theorem depth_str (i : PySem.Str) : depth (.str i) = 0 := eqOf rfl
@[simp] theorem depth_tup (xs : List PV) : depth (.tup xs) = depths xs + 1 := eqOf rfl
@[simp] theorem depth_lst (xs : List PV) : depth (.lst xs) = depths xs + 1 := eqOf rfl
@[simp] theorem depths_nil : depths [] = 0 := eqOf rfl
@[simp] theorem depths_cons (x : PV) (xs : List PV) : depths (x :: xs) = max (depth x) (depths xs) := eqOf rfl
theorem depths_le {xs : List PV} {k : Nat} : depths xs ≤ k ↔ ∀ x ∈ xs, depth x ≤ k := by
  induction xs with
  | nil => simp
  | cons x xs ih =>
    simp [← ih]
    omega
/-- what `_law_odd` draws from -/
def odds : List PV := [.non, .bl true, .bl false, .int 0, .int 1, .int 2, .int 7, .int (-1), .int 10000000000000000000000000000000, .str "", .str "sum", .str "wider", .tup [], .lst [], .tup [.int 0], .tup [.int 0, .int 1], .tup [.int 1, .int 1, .int 1],
  .tup [.str "sum", .tup [.int 0], .int 1, .non], .tup [.str "wider", .tup [.int 0], .tup [.int 1]], .tup [.tup [.int 1, .int 2], .tup [.int 3, .int 1]], .tup [.tup [.int 0, .int 1]], .tup [.int 1, .int 0]]
theorem odds_ok : ∀ x ∈ odds, nice 0 x = true ∧ depth x ≤ 2 := by decide +kernel
theorem r_odd {n : Nat} : ∀ (k : Nat) {d : Nat} {S : PSt}, k < 1000 → Vat n S → ∃ v S', run T (d + k + 3) .l_odd [.ref n, .int k] S = .ok v S' ∧ nice 0 v = true ∧ depth v ≤ k + 2 ∧ Dr n S S' := fun k => by
  induction k with
  | zero =>
    intro d S hk vt
    obtain ⟨x, S', e, hx, dr⟩ := r_some (d := d) (v := .lst odds) vt (.inr rfl) (by decide) (by decide)
    refine ⟨x, S', ?_, (odds_ok x hx).1, by have := (odds_ok x hx).2; omega, dr⟩
    rw [show d + 0 + 3 = (d + 2) + 1 by omega, run_eq d_l_odd rfl rfl rfl]
    have l1 : 22 ≤ LIM := by decide
    have hl := dr.len
    unfold odds at e
    simp [d_l_odd, l1, eqI, e, hl]
  | succ k ih =>
    intro d S hk vt
    obtain ⟨i, S1, e1, a1, a2, d1⟩ := r_under (d := d + k + 2) (many := 9) vt (by omega) (by omega)
    have l1 : 22 ≤ LIM := by decide
    have hk1 : ((k : Int) + 1 = 0) = False := by simp; omega
    by_cases hi : i < 6
    · obtain ⟨x, S', e, hx, dr⟩ := r_some (d := d + k + 1) (v := .lst odds) (d1.vat vt) (.inr rfl) (by decide) (by decide)
      refine ⟨x, S', ?_, (odds_ok x hx).1, by have := (odds_ok x hx).2; omega, d1.trans dr⟩
      rw [show d + (k + 1) + 3 = (d + k + 3) + 1 by omega, run_eq d_l_odd rfl rfl rfl]
      have hl := dr.len
      have hl1 := d1.len
      unfold odds at e
      rw [show d + k + 1 + 2 = d + k + 3 by omega] at e
      rw [show d + k + 2 + 1 = d + k + 3 by omega] at e1
      simp [d_l_odd, l1, eqI, e1, hi, e, hl, hl1, hk1]
    · obtain ⟨m, S2, e2, b1, b2, d2⟩ := r_under (d := d + k + 2) (many := 4) (d1.vat vt) (by omega) (by omega)
      have v2 := d2.vat (d1.vat vt)
      rw [show d + k + 2 + 1 = d + k + 3 by omega] at e1 e2
      obtain ⟨m, rfl⟩ := Int.eq_ofNat_of_zero_le b1
      -- the row
      obtain ⟨vs, S3, k1, k2, k3, k4, k5⟩ := compL_inv (f := turn1 (.nm 4) [4] (evT (run T (d + k + 3)) (.cst (.bl true))) (ev (run T (d + k + 3)) (.call .l_odd (.cons (.var 0) (.cons (.bin .sub (.var 1) (.cst (.int 1))) .nil)))) [some (.ref n), some (.int ((k : Int) + 1)), some (.lst odds), none, none]) (I := fun xs o S3 => o.length + xs.length = m ∧ (∀ x ∈ o, nice 0 x = true ∧ depth x ≤ k + 2) ∧ Vat n S3 ∧ Dr n S2 S3) (fun x xs o S3 ⟨c1, c2, c3, c4⟩ => by
          obtain ⟨y, S4, e4, n4, n5, d4⟩ := ih (d := d) (by omega) c3
          refine ⟨[y], S4, ?_, by simp at c1 ⊢; omega, fun z hz => ?_, d4.vat c3, c4.trans d4⟩
          · have e5 : (k : Int) + 1 - 1 = k := by omega
            unfold turn1
            simp [e5, e4]
          · rcases List.mem_append.mp hz with w | w
            · exact c2 z w
            · rw [List.mem_singleton.mp w]; exact ⟨n4, n5⟩) (rngL 0 m) [] S2 ⟨by simp [rngL], by simp, v2, v2.dr⟩
      have k2 : vs.length = m := by simpa using k2
      have k3 : ∀ x ∈ vs, nice 0 x = true ∧ depth x ≤ k + 2 := by simpa using k3
      obtain ⟨j, S4, e4, c1, c2, d4⟩ := r_under (d := d + k + 2) (many := 3) k4 (by omega) (by omega)
      rw [show d + k + 2 + 1 = d + k + 3 by omega] at e4
      have hN : nices 0 vs = true := nices_mem.mpr fun x hx => (k3 x hx).1
      have hD : depths vs ≤ k + 2 := depths_le.mpr fun x hx => (k3 x hx).2
      refine ⟨if j = 0 then .lst vs else .tup vs, S4, ?_, ?_, ?_, d1.trans (d2.trans (k5.trans d4))⟩
      · rw [show d + (k + 1) + 3 = (d + k + 3) + 1 by omega, run_eq d_l_odd rfl rfl rfl]
        have h1 := d1.len
        have h2 := d2.len
        have h3 := k5.len
        have h4 := d4.len
        have s1 : small62 (m : Int) = true := small_i (by omega) (by omega)
        have l2 : vs.length ≤ LIM := lim_n (by omega)
        unfold odds at k1
        by_cases hj : j = 0 <;>
        simp [d_l_odd, l1, eqI, e1, hi, e2, s1, k1, e4, hj, h1, h2, h3, h4, hk1, capL, l2]
      · split <;> simp [hN] <;> omega
      · split <;> simp <;> omega
end Pw
/-! Ma6: values with one place otherwise. -/
namespace Pw
open PySem
variable {d : Nat} {S : PSt}
theorem cutP_take (xs : List PV) (i : Nat) : cutP xs none (some (i : Int)) = xs.take i := by
  unfold cutP
  rw [HT.sIx_none, HT.sIx_nat]
  simp
theorem cutP_drop (xs : List PV) (i : Nat) : cutP xs (some (i : Int)) none = xs.drop i := by
  unfold cutP
  rw [HT.sIx_none, HT.sIx_nat]
  by_cases h : i ≤ xs.length
  · rw [Nat.min_eq_left h]
    exact List.take_of_length_le (by simp)
  · rw [Nat.min_eq_right (by omega), List.drop_length, List.drop_eq_nil_of_le (by omega)]
    simp
theorem cutP_take1 (xs : List PV) (i : Nat) : cutP xs none (some ((i : Int) + 1)) = xs.take (i + 1) := cutP_take xs (i + 1)
theorem cutP_drop1 (xs : List PV) (i : Nat) : cutP xs (some ((i : Int) + 1)) none = xs.drop (i + 1) := cutP_drop xs (i + 1)
theorem nices_app {n : Nat} {xs ys : List PV} : nices n (xs ++ ys) = true ↔ nices n xs = true ∧ nices n ys = true := by
  rw [nices_mem, nices_mem, nices_mem]
  constructor
  · intro h
    exact ⟨fun x hx => h x (List.mem_append_left _ hx), fun x hx => h x (List.mem_append_right _ hx)⟩
  · intro h x hx
    rcases List.mem_append.mp hx with z | z
    · exact h.1 x z
    · exact h.2 x z
theorem nices_take {n i : Nat} {xs : List PV} (h : nices n xs = true) : nices n (xs.take i) = true := nices_mem.mpr fun x hx => nices_mem.mp h x (List.mem_of_mem_take hx)
theorem nices_drop {n i : Nat} {xs : List PV} (h : nices n xs = true) : nices n (xs.drop i) = true := nices_mem.mpr fun x hx => nices_mem.mp h x (List.mem_of_mem_drop hx)
theorem nices_rev {n : Nat} {xs : List PV} (h : nices n xs = true) : nices n xs.reverse = true := nices_mem.mpr fun x hx => nices_mem.mp h x (List.mem_reverse.mp hx)
theorem depths_app {k : Nat} {xs ys : List PV} : depths (xs ++ ys) ≤ k ↔ depths xs ≤ k ∧ depths ys ≤ k := by
  rw [depths_le, depths_le, depths_le]
  constructor
  · intro h
    exact ⟨fun x hx => h x (List.mem_append_left _ hx), fun x hx => h x (List.mem_append_right _ hx)⟩
  · intro h x hx
    rcases List.mem_append.mp hx with z | z
    · exact h.1 x z
    · exact h.2 x z
theorem depths_take {k i : Nat} {xs : List PV} (h : depths xs ≤ k) : depths (xs.take i) ≤ k := depths_le.mpr fun x hx => depths_le.mp h x (List.mem_of_mem_take hx)
theorem depths_drop {k i : Nat} {xs : List PV} (h : depths xs ≤ k) : depths (xs.drop i) ≤ k := depths_le.mpr fun x hx => depths_le.mp h x (List.mem_of_mem_drop hx)
theorem depths_rev {k : Nat} {xs : List PV} (h : depths xs ≤ k) : depths xs.reverse ≤ k := depths_le.mpr fun x hx => depths_le.mp h x (List.mem_reverse.mp hx)
theorem log2_lt {a n : Nat} (hn : 0 < n) : a.log2 < n ↔ a < 2 ^ n := by
  by_cases h : a = 0
  · subst h
    simp [hn]
    exact Nat.two_pow_pos n
  · exact Nat.log2_lt h
theorem log2_add {i j : Int} {n : Nat} (h : i.natAbs.log2 < n + 200) (hj : j.natAbs ≤ 16) : (i + j).natAbs.log2 < n + 1 + 200 := by
  rw [log2_lt (by omega)] at h ⊢
  have h1 : (2 : Nat) ^ (n + 1 + 200) = 2 ^ (n + 200) + 2 ^ (n + 200) := by rw [show n + 1 + 200 = (n + 200) + 1 by omega, Nat.pow_succ]; omega
  have h2 : (2 : Nat) ^ 5 ≤ 2 ^ (n + 200) := Nat.pow_le_pow_right (by decide) (by omega)
  have h3 : (i + j).natAbs ≤ i.natAbs + j.natAbs := Int.natAbs_add_le i j
  omega
theorem log2_dbl {i : Int} {n : Nat} (h : i.natAbs.log2 < n + 200) : (2 * i).natAbs.log2 < n + 1 + 200 := by
  rw [log2_lt (by omega)] at h ⊢
  have h1 : (2 : Nat) ^ (n + 1 + 200) = 2 ^ (n + 200) + 2 ^ (n + 200) := by rw [show n + 1 + 200 = (n + 200) + 1 by omega, Nat.pow_succ]; omega
  have h3 : (2 * i).natAbs = 2 * i.natAbs := by rw [Int.natAbs_mul]; rfl
  omega
theorem str_len (x y : PySem.Str) : (x ++ y).length = x.length + y.length := by
  show (x.cps ++ y.cps).size = x.cps.size + y.cps.size
  exact Array.size_append
/-- what a value that is bent may become, all of it -/
def nears (v : PV) : List PV := match v with
  | .str x => [.str "sum", .str "wider", .str "push", .str "drive", .str "left", .str "right", .str (x ++ "s")]
  | .int i => [.int (i + 1), .int (i - 1), .bl (!(i != 0)), .str (toString i), .int (i + 9), .int (2 * i)]
  | .bl b => [.int (b2i b + 1), .int (b2i b - 1), .bl (!b), .str (if b then "True" else "False"), .int (b2i b + 9), .int (2 * b2i b)]
  | _ => []
theorem nears_ok {N : Nat} {v : PV} (hN : N ≤ 1000) (h : nice N v = true) : ∀ x ∈ nears v, nice (N + 1) x = true ∧ depth x = 0 := by
  intro x hx
  cases v with
  | str y =>
    simp at h
    have h1 : ("s" : PySem.Str).length = 1 := by decide +kernel
    have h2 : ("sum" : PySem.Str).length = 3 := by decide +kernel
    have h3 : ("wider" : PySem.Str).length = 5 := by decide +kernel
    have h4 : ("push" : PySem.Str).length = 4 := by decide +kernel
    have h5 : ("drive" : PySem.Str).length = 5 := by decide +kernel
    have h6 : ("left" : PySem.Str).length = 4 := by decide +kernel
    have h7 : ("right" : PySem.Str).length = 5 := by decide +kernel
    simp [nears] at hx
    rcases hx with rfl | rfl | rfl | rfl | rfl | rfl | rfl <;> simp [str_len, *] <;> omega
  | int i =>
    simp at h
    have h1 := PyProof.Rows.int_text_len_1921 (i := i) (by omega)
    have h2 := log2_add (j := 1) h (by decide)
    have h3 := log2_add (j := -1) h (by decide)
    have h4 := log2_add (j := 9) h (by decide)
    have h5 := log2_dbl h
    simp only [nears, List.mem_cons, List.not_mem_nil, or_false] at hx
    rcases hx with rfl | rfl | rfl | rfl | rfl | rfl
    · exact ⟨by simpa using h2, rfl⟩
    · exact ⟨decide_eq_true h3, rfl⟩
    · exact ⟨rfl, rfl⟩
    · exact ⟨decide_eq_true (by omega), rfl⟩
    · exact ⟨by simpa using h4, rfl⟩
    · exact ⟨by simpa using h5, rfl⟩
  | bl b =>
    have h1 : ("True" : PySem.Str).length = 4 := by decide +kernel
    have h2 : ("False" : PySem.Str).length = 5 := by decide +kernel
    have h3 : ∀ j : Int, j.natAbs ≤ 16 → j.natAbs.log2 < N + 1 + 200 := fun j hj => by
      rw [log2_lt (by omega)]
      have h2 : (2 : Nat) ^ 5 ≤ 2 ^ (N + 1 + 200) := Nat.pow_le_pow_right (by decide) (by omega)
      omega
    simp [nears] at hx
    cases b <;> (rcases hx with rfl | rfl | rfl | rfl | rfl | rfl) <;> refine ⟨?_, rfl⟩ <;> first | rfl | exact decide_eq_true (h3 _ (by decide)) | exact decide_eq_true (by omega)
  | _ => simp [nears] at hx

def isTup : PV → Bool
  | .tup _ => true
  | _ => false
/-- `_law_bent`'s first block, and what comes behind it -/
def leafB : PSs := (.cons (.asg (.nm 2) (.fl (.disp (.cons (.call .l_odd (.cons (.var 0) (.cons (.cst (.int 1)) .nil))) (.cons (.call .l_odd (.cons (.var 0) (.cons (.cst (.int 1)) .nil))) .nil)))))
    (.cons (.ifs (.isi (.var 1) .str) (.cons (.asg (.nm 2) (.bin .add (.var 2) (.fl (.disp (.cons (.cst (.str "sum")) (.cons (.cst (.str "wider")) (.cons (.cst (.str "push")) (.cons (.cst (.str "drive")) (.cons (.cst (.str "left")) (.cons (.cst (.str "right")) (.cons (.bin .add (.var 1) (.cst (.str "s"))) .nil)))))))))))
    .nil) (.cons (.ifs (.isi (.var 1) .int) (.cons (.asg (.nm 2) (.bin .add (.var 2) (.fl (.disp (.cons (.bin .add (.var 1) (.cst (.int 1))) (.cons (.bin .sub (.var 1) (.cst (.int 1))) (.cons (.not (.var 1)) (.cons (.blt .str (.cons (.var 1) .nil)) (.cons (.bin .add (.var 1) (.cst (.int 9))) (.cons (.bin .mul (.cst (.int 2)) (.var 1)) .nil))))))))))
    .nil) .nil)
    .nil))
    (.cons (.ret (.call .l_some (.cons (.var 0) (.cons (.var 2) .nil))))
    .nil)))
def bentR : PSs := (.cons (.par [3, 4] (.cons (.call .l_under (.cons (.var 0) (.cons (.blt .len (.cons (.var 1) .nil)) .nil))) (.cons (.call .l_under (.cons (.var 0) (.cons (.cst (.int 9)) .nil))) .nil)))
    (.cons (.ifs (.cmp .eq (.var 4) (.cst (.int 0))) (.cons (.ret (.bin .add (.slt (.var 1) (.var 3)) (.slf (.var 1) (.bin .add (.var 3) (.cst (.int 1))))))
    .nil) .nil)
    (.cons (.ifs (.cmp .eq (.var 4) (.cst (.int 1))) (.cons (.ret (.bin .add (.slt (.var 1) (.bin .add (.var 3) (.cst (.int 1)))) (.slf (.var 1) (.var 3))))
    .nil) .nil)
    (.cons (.ifs (.cmp .eq (.var 4) (.cst (.int 2))) (.cons (.ret (.rev (.var 1)))
    .nil) .nil)
    (.cons (.ifs (.cmp .eq (.var 4) (.cst (.int 3))) (.cons (.ret (.fl (.ofl (.var 1))))
    .nil) .nil)
    (.cons (.ret (.bin .add (.bin .add (.slt (.var 1) (.var 3)) (.tup (.cons (.call .l_bent (.cons (.var 0) (.cons (.idx (.var 1) (.var 3)) .nil))) .nil))) (.slf (.var 1) (.bin .add (.var 3) (.cst (.int 1))))))
    .nil))))))
theorem bent_body : d_l_bent.body = .cons (.ifs (.or (.not (.isi (.var 1) .tuple)) (.or (.cmp .eq (.var 1) (.tup .nil)) (.cmp .eq (.call .l_under (.cons (.var 0) (.cons (.cst (.int 7)) .nil))) (.cst (.int 0))))) leafB .nil) bentR := rfl
/-- the block of `_law_bent` that makes another value -/
theorem bent_leaf {n N : Nat} {v : PV} (hN : N ≤ 1000) (hv : nice N v = true) (vt : Vat n S) : ∃ u S', execs (run T (d + 5)) leafB [some (.ref n), some v, none, none, none] S = .ok (.ret u) S' ∧ nice (N + 1) u = true ∧ depth u ≤ 3 ∧ Dr n S S' := by
  obtain ⟨o1, S1, e1, a1, b1, d1⟩ := r_odd (n := n) 1 (d := d + 1) (by omega) vt
  obtain ⟨o2, S2, e2, a2, b2, d2⟩ := r_odd (n := n) 1 (d := d + 1) (by omega) (d1.vat vt)
  obtain ⟨x, S3, e3, hx, d3⟩ := r_some (d := d + 3) (v := .lst ([o1, o2] ++ nears v)) (d2.vat (d1.vat vt)) (.inr rfl) (by simp) (by cases v <;> simp [nears])
  refine ⟨x, S3, ?_, ?_, ?_, d1.trans (d2.trans d3)⟩
  · unfold leafB
    have e1 : run T (d + 5) .l_odd [.ref n, .int 1] S = .ok o1 S1 := e1
    have e2 : run T (d + 5) .l_odd [.ref n, .int 1] S1 = .ok o2 S2 := e2
    have e3 : run T (d + 5) .l_some [.ref n, .lst ([o1, o2] ++ nears v)] S2 = .ok x S3 := e3
    have l1 : 9 ≤ LIM := by decide
    have l2 : 8 ≤ LIM := by decide
    cases v with
    | str y =>
      simp at hv
      have h1 : ("s" : PySem.Str).length = 1 := by decide +kernel
      have l3 : y.length + 1 ≤ LIM := lim_n (by omega)
      simp [nears] at e3
      simp [e1, e2, e3, l1, l2, h1, l3]
    | int i =>
      simp at hv
      have m1 : mulOk 2 i = true := by unfold mulOk; simp
      have l3 : i.natAbs.log2 < 1920 := by omega
      simp [nears] at e3
      simp [e1, e2, e3, l1, l2, m1, l3]
    | bl b =>
      simp [nears] at e3
      simp [e1, e2, e3, l1, l2]
    | ref _ => cases hv
    | fn _ => cases hv
    | cls _ => cases hv
    | exn _ _ => cases hv
    | scr _ => cases hv
    | _ =>
      simp [nears] at e3
      simp [e1, e2, e3, l1, l2]
  · rcases List.mem_append.mp hx with z | z
    · simp at z
      rcases z with rfl | rfl
      · exact nice_mono (by omega) a1
      · exact nice_mono (by omega) a2
    · exact (nears_ok hN hv x z).1
  · rcases List.mem_append.mp hx with z | z
    · simp at z
      rcases z with rfl | rfl <;> omega
    · rw [(nears_ok hN hv x z).2]; omega

theorem eqV_tup_nil (S : PSt) {xs : List PV} (h : isDatas xs = true) : eqV S (.tup xs) (.tup []) = some xs.isEmpty := by
  unfold eqV
  have h2 : pyEq (.tup xs) (.tup []) = xs.isEmpty := by cases xs <;> rfl
  simp [top1, h, h2]
theorem eqV_lst_nil (S : PSt) {xs : List PV} (h : isDatas xs = true) : eqV S (.lst xs) (.lst []) = some xs.isEmpty := by
  unfold eqV
  have h2 : pyEq (.lst xs) (.lst []) = xs.isEmpty := by cases xs <;> rfl
  simp [top1, h, h2]
set_option maxHeartbeats 2000000 in
theorem r_bent {n N : Nat} (hN : N ≤ 1000) : ∀ (k : Nat) {v : PV} {d : Nat} {S : PSt}, depth v ≤ k → nice N v = true → Vat n S → ∃ u S', run T (d + k + 6) .l_bent [.ref n, v] S = .ok u S' ∧ nice (N + 1) u = true ∧ depth u ≤ k + 3 ∧ Dr n S S' := fun k => by
  induction k with
  | zero =>
    intro v d S hk hv vt
    obtain ⟨u, S', e, a, b, dr⟩ := bent_leaf (d := d) hN hv vt
    refine ⟨u, S', ?_, a, b, dr⟩
    rw [show d + 0 + 6 = (d + 5) + 1 by omega, run_eq d_l_bent rfl rfl rfl]
    have hl := dr.len
    cases v with
    | tup xs => simp at hk
    | lst xs => simp at hk
    | ref _ => cases hv
    | fn _ => cases hv
    | cls _ => cases hv
    | exn _ _ => cases hv
    | scr _ => cases hv
    | _ =>
      rw [bent_body]
      simp [d_l_bent, e, hl]
  | succ k ih =>
    intro v d S hk hv vt
    have leaf : ∀ S1, Dr n S S1 → _ := fun S1 d1 => bent_leaf (d := d + k + 1) hN hv (d1.vat vt)
    by_cases ht : isTup v = true ∧ v ≠ .tup []
    · obtain ⟨h1, h2⟩ := ht
      cases v with
      | tup xs =>
        have hne : xs ≠ [] := fun z => h2 (by rw [z])
        have hpos : 0 < xs.length := List.length_pos_iff.mpr hne
        simp at hv hk
        obtain ⟨hlen, hns⟩ := hv
        have hdat := nices_data hns
        have hem : xs.isEmpty = false := by simpa using hne
        obtain ⟨j, S1, e1, a1, b1, d1⟩ := r_under (d := d + k + 5) (many := 7) vt (by omega) (by omega)
        have e1 : run T (d + k + 6) .l_under [.ref n, .int 7] S = .ok (.int j) S1 := e1
        by_cases hj : j = 0
        · subst hj
          obtain ⟨u, S', e, a, b, dr⟩ := leaf S1 d1
          refine ⟨u, S', ?_, a, by omega, d1.trans dr⟩
          rw [show d + (k + 1) + 6 = (d + k + 6) + 1 by omega, run_eq d_l_bent rfl rfl rfl]
          rw [show d + k + 1 + 5 = d + k + 6 by omega] at e
          have hl := dr.len
          have hl1 := d1.len
          rw [bent_body]
          simp [d_l_bent, e1, eqV_tup_nil _ hdat, hem, hne, eqI, e, hl, hl1]
        · obtain ⟨at_, S2, e2, a2, b2, d2⟩ := r_under (d := d + k + 5) (many := xs.length) (d1.vat vt) (by omega) (by omega)
          obtain ⟨way, S3, e3, a3, b3, d3⟩ := r_under (d := d + k + 5) (many := 9) (d2.vat (d1.vat vt)) (by omega) (by omega)
          have e2 : run T (d + k + 6) .l_under [.ref n, .int xs.length] S1 = .ok (.int at_) S2 := e2
          have e3 : run T (d + k + 6) .l_under [.ref n, .int 9] S2 = .ok (.int way) S3 := e3
          obtain ⟨i, rfl⟩ := Int.eq_ofNat_of_zero_le a2
          have hi : i < xs.length := by omega
          have v3 := d3.vat (d2.vat (d1.vat vt))
          have hx := List.getElem_mem hi
          obtain ⟨u, S4, e4, a4, b4, d4⟩ := ih (v := xs[i]) (d := d) (S := S3) (depths_le.mp (by omega) _ hx) (nices_mem.mp hns _ hx) v3
          have e4 : run T (d + k + 6) .l_bent [.ref n, xs[i]] S3 = .ok u S4 := e4
          have hl1 := d1.len
          have hl2 := d2.len
          have hl3 := d3.len
          have hl4 := d4.len
          have dd := d1.trans (d2.trans d3)
          have lim : ∀ a b : Nat, a ≤ xs.length + 1 → b ≤ xs.length + 1 → a + b ≤ LIM := fun a b h1 h2 => lim_n (by omega)
          have lt : (xs.take i).length + (xs.drop (i + 1)).length ≤ LIM := lim _ _ (by simp; omega) (by simp; omega)
          have lt2 : (xs.take (i + 1)).length + (xs.drop i).length ≤ LIM := lim _ _ (by simp; omega) (by simp; omega)
          have lt3 : (xs.take i).length + [u].length ≤ LIM := lim _ _ (by simp; omega) (by simp)
          have lt4 : (xs.take i ++ [u]).length + (xs.drop (i + 1)).length ≤ LIM := lim _ _ (by simp; omega) (by simp; omega)
          simp at lt lt2
          have nN : nices (N + 1) xs = true := nices_mono (by omega) hns
          have start : ∀ r, execs (run T (d + k + 6)) d_l_bent.body [some (.ref n), some (.tup xs), none, none, none] S = r → run T (d + (k + 1) + 6) .l_bent [.ref n, .tup xs] S = endD true S.length r := fun r e => by
            rw [show d + (k + 1) + 6 = (d + k + 6) + 1 by omega, run_eq d_l_bent rfl rfl rfl]
            exact congrArg _ e
          by_cases w0 : way = 0
          · refine ⟨.tup (xs.take i ++ xs.drop (i + 1)), S3, ?_, ?_, ?_, dd⟩
            · rw [start _ rfl]
              rw [bent_body]
              simp [d_l_bent, bentR, e1, eqV_tup_nil _ hdat, hem, hne, eqI, hj, e2, e3, w0, cutP_take, cutP_drop, cutP_take1, cutP_drop1, lt, hl1, hl2, hl3]
            · simp only [nice_tup, Bool.and_eq_true, decide_eq_true_eq]
              exact ⟨by simp; omega, nices_app.mpr ⟨nices_take nN, nices_drop nN⟩⟩
            · simp only [depth_tup]
              have := depths_app (k := k).mpr ⟨depths_take (i := i) (show depths xs ≤ k by omega), depths_drop (i := i + 1) (show depths xs ≤ k by omega)⟩
              omega
          · by_cases w1 : way = 1
            · refine ⟨.tup (xs.take (i + 1) ++ xs.drop i), S3, ?_, ?_, ?_, dd⟩
              · rw [start _ rfl]
                rw [bent_body]
                simp [d_l_bent, bentR, e1, eqV_tup_nil _ hdat, hem, hne, eqI, hj, e2, e3, w1, cutP_take, cutP_drop, cutP_take1, cutP_drop1, lt2, hl1, hl2, hl3]
              · simp only [nice_tup, Bool.and_eq_true, decide_eq_true_eq]
                exact ⟨by simp; omega, nices_app.mpr ⟨nices_take nN, nices_drop nN⟩⟩
              · simp only [depth_tup]
                have := depths_app (k := k).mpr ⟨depths_take (i := i + 1) (show depths xs ≤ k by omega), depths_drop (i := i) (show depths xs ≤ k by omega)⟩
                omega
            · by_cases w2 : way = 2
              · refine ⟨.tup xs.reverse, S3, ?_, ?_, ?_, dd⟩
                · rw [start _ rfl]
                  rw [bent_body]
                  simp [d_l_bent, bentR, e1, eqV_tup_nil _ hdat, hem, hne, eqI, hj, e2, e3, w2, hl1, hl2, hl3]
                · simp only [nice_tup, Bool.and_eq_true, decide_eq_true_eq]
                  exact ⟨by simp; omega, nices_rev nN⟩
                · simp only [depth_tup]
                  have := depths_rev (show depths xs ≤ k by omega)
                  omega
              · by_cases w3 : way = 3
                · refine ⟨.lst xs, S3, ?_, ?_, ?_, dd⟩
                  · rw [start _ rfl]
                    rw [bent_body]
                    simp [d_l_bent, bentR, e1, eqV_tup_nil _ hdat, hem, hne, eqI, hj, e2, e3, w3, hl1, hl2, hl3]
                  · simp only [nice_lst, Bool.and_eq_true, decide_eq_true_eq]
                    exact ⟨by omega, nN⟩
                  · simp only [depth_lst]
                    omega
                · refine ⟨.tup (xs.take i ++ [u] ++ xs.drop (i + 1)), S4, ?_, ?_, ?_, dd.trans d4⟩
                  · rw [start _ rfl]
                    have g : xs[i]? = some xs[i] := List.getElem?_eq_getElem hi
                    rw [bent_body]
                    simp [d_l_bent, bentR, e1, eqV_tup_nil _ hdat, hem, hne, eqI, hj, e2, e3, w0, w1, w2, w3, atI_nat, g, e4, cutP_take, cutP_drop, cutP_take1, cutP_drop1, hl1, hl2, hl3, hl4]
                    simp at lt3 lt4
                    simp [cutP_drop1, lt3, lt4, hl1, hl2, hl3, hl4]
                  · simp only [nice_tup, Bool.and_eq_true, decide_eq_true_eq]
                    refine ⟨by simp; omega, nices_app.mpr ⟨nices_app.mpr ⟨nices_take nN, ?_⟩, nices_drop nN⟩⟩
                    simp [a4]
                  · simp only [depth_tup]
                    have := depths_app (k := k + 3).mpr ⟨depths_app.mpr ⟨depths_take (i := i) (show depths xs ≤ k + 3 by omega), show depths [u] ≤ k + 3 by simp; omega⟩, depths_drop (i := i + 1) (show depths xs ≤ k + 3 by omega)⟩
                    omega
      | _ => cases h1
    · obtain ⟨u, S', e, a, b, dr⟩ := leaf S vt.dr
      refine ⟨u, S', ?_, a, by omega, dr⟩
      rw [show d + (k + 1) + 6 = (d + k + 6) + 1 by omega, run_eq d_l_bent rfl rfl rfl]
      rw [show d + k + 1 + 5 = d + k + 6 by omega] at e
      have hl := dr.len
      rw [bent_body]
      cases v with
      | tup xs =>
        have hx : xs = [] := by
          by_cases z : xs = []
          · exact z
          · exact absurd ⟨rfl, fun w => z (by cases w; rfl)⟩ ht
        subst hx
        simp [d_l_bent, eqV_tup_nil, e, hl]
      | ref _ => cases hv
      | fn _ => cases hv
      | cls _ => cases hv
      | exn _ _ => cases hv
      | scr _ => cases hv
      | _ => simp [d_l_bent, e, hl]
end Pw
/-! Ma7: standings and moves. -/
namespace Pw
open PySem
variable {d : Nat} {S : PSt}
theorem eqS (S : PSt) (x y : PySem.Str) : eqV S (.str x) (.str y) = some (decide (x = y)) := by
  unfold eqV
  simp [top1, pyEq]
  rfl
theorem len2 {xs : List PV} : xs.length = 2 → ∃ a b, xs = [a, b] := fun h => by
  rcases xs with _ | ⟨a, _ | ⟨b, _ | ⟨c, r⟩⟩⟩ <;> simp at h
  exact ⟨a, b, rfl⟩
def goodSt (f b : Nat) : PV → Bool
  | .tup [x, y] => isWhole x 0 f && isWhole y 0 b
  | _ => false
theorem goodSt_len {f b : Nat} {xs : List PV} (h : xs.length ≠ 2) : goodSt f b (.tup xs) = false := by
  rcases xs with _ | ⟨a, _ | ⟨b, _ | ⟨c, r⟩⟩⟩ <;> first | rfl | simp at h
theorem r_need_standing {w f b : Nat} {v : PV} (h : isData v = true) : run T (d + 2) .need_standing [wd w f b, v] S = if goodSt f b v = true then .ok .non S else .exc .InvalidStanding [] S := by
  rw [run_eq d_need_standing rfl rfl rfl]
  cases v with
  | tup xs =>
    by_cases hl : xs.length = 2
    · obtain ⟨x, y, rfl⟩ := len2 hl
      simp at h
      simp [d_need_standing, eqI, h, goodSt, wd]
      cases isWhole x 0 f <;> cases isWhole y 0 b <;> simp
    · have hl' : ((xs.length : Int) = 2) = False := by simp; omega
      simp [d_need_standing, eqI, hl', hl, goodSt_len hl]
  | ref n => simp at h
  | fn f => simp at h
  | cls c => simp at h
  | exn c vs => simp at h
  | scr ns => simp at h
  | _ => simp [d_need_standing, goodSt]
def isMove (many : Int) : PV → Bool
  | .tup [.str a, x, .str b] => (decide (("push" : PySem.Str) = a) || decide (("drive" : PySem.Str) = a)) && (decide (("left" : PySem.Str) = b) || decide (("right" : PySem.Str) = b)) && isWhole x 0 (many - 1)
  | _ => false
theorem isMove_len {many : Int} {xs : List PV} (h : xs.length ≠ 3) : isMove many (.tup xs) = false := by
  rcases xs with _ | ⟨a, _ | ⟨b, _ | ⟨c, _ | ⟨e, r⟩⟩⟩⟩ <;> first | rfl | (simp at h; done) | (unfold isMove; rfl) | simp [isMove]
theorem inV2 (x a b : PySem.Str) : inV (.str x) [.str a, .str b] = (decide (a = x) || decide (b = x)) := by
  simp [inV, pyEq]
  rfl
theorem r_is_move {w f b : Nat} {v : PV} (h : isData v = true) : run T (d + 2) .is_move [wd w f b, v] S = .ok (.bl (isMove (f + b) v)) S := by
  rw [run_eq d_is_move rfl rfl rfl]
  cases v with
  | tup xs =>
    by_cases hl : xs.length = 3
    · obtain ⟨x, y, z, rfl⟩ := len3 hl
      simp at h
      cases x with
      | str a =>
        cases z with
        | str c =>
          simp [d_is_move, eqI, h, wd, inV2, isMove]
          by_cases h1 : ("push" : PySem.Str) = a <;> by_cases h2 : ("drive" : PySem.Str) = a <;> by_cases h3 : ("left" : PySem.Str) = c <;> by_cases h4 : ("right" : PySem.Str) = c <;> simp [h1, h2, h3, h4]
        | ref n => simp at h
        | fn f => simp at h
        | cls c => simp at h
        | exn c vs => simp at h
        | scr ns => simp at h
        | _ => simp [d_is_move, eqI, h, wd, inV2, isMove]
      | ref n => simp at h
      | fn f => simp at h
      | cls c => simp at h
      | exn c vs => simp at h
      | scr ns => simp at h
      | _ => simp [d_is_move, eqI, isMove]
    · have hl' : ((xs.length : Int) = 3) = False := by simp; omega
      simp [d_is_move, eqI, hl', hl, isMove_len hl]
  | ref n => simp at h
  | fn f => simp at h
  | cls c => simp at h
  | exn c vs => simp at h
  | scr ns => simp at h
  | _ => simp [d_is_move, isMove]
theorem r_l_is_move {w f b : Nat} {v : PV} (h : isData v = true) : run T (d + 2) .l_is_move [wd w f b, v] S = .ok (.bl (isMove (f + b) v)) S := by
  rw [run_eq d_l_is_move rfl rfl rfl]
  cases v with
  | tup xs =>
    by_cases hl : xs.length = 3
    · obtain ⟨x, y, z, rfl⟩ := len3 hl
      simp at h
      cases x with
      | str a =>
        cases z with
        | str c =>
          simp [d_l_is_move, eqI, h, wd, inV2, isMove]
          by_cases h1 : ("push" : PySem.Str) = a <;> by_cases h2 : ("drive" : PySem.Str) = a <;> by_cases h3 : ("left" : PySem.Str) = c <;> by_cases h4 : ("right" : PySem.Str) = c <;> simp [h1, h2, h3, h4]
        | ref n => simp at h
        | fn f => simp at h
        | cls c => simp at h
        | exn c vs => simp at h
        | scr ns => simp at h
        | _ => simp [d_l_is_move, eqI, h, wd, inV2, isMove]
      | ref n => simp at h
      | fn f => simp at h
      | cls c => simp at h
      | exn c vs => simp at h
      | scr ns => simp at h
      | _ => simp [d_l_is_move, eqI, isMove]
    · have hl' : ((xs.length : Int) = 3) = False := by simp; omega
      simp [d_l_is_move, eqI, hl', hl, isMove_len hl]
  | ref n => simp at h
  | fn f => simp at h
  | cls c => simp at h
  | exn c vs => simp at h
  | scr ns => simp at h
  | _ => simp [d_l_is_move, isMove]
def areMoves (many : Int) : PV → Bool
  | .tup xs => decide (xs.length ≤ 12) && xs.all (isMove many)
  | _ => false
theorem filter_empty {α : Type} (p : α → Bool) (xs : List α) : (xs.filter fun x => !p x).isEmpty = xs.all p := by
  induction xs with
  | nil => rfl
  | cons x xs ih =>
    rw [List.filter_cons, List.all_cons, ← ih]
    cases p x <;> simp
theorem r_are_moves {w f b : Nat} {v : PV} (h : isData v = true) : run T (d + 3) .are_moves [wd w f b, v] S = .ok (.bl (areMoves (f + b) v)) S := by
  rw [run_eq d_are_moves rfl rfl rfl]
  cases v with
  | tup xs =>
    by_cases hl : 12 < xs.length
    · have hl' : (12 : Int) < xs.length := by omega
      have : ¬ xs.length ≤ 12 := by omega
      simp [d_are_moves, hl, hl', areMoves, this]
    · have hl' : ¬ (12 : Int) < xs.length := by omega
      have hl2 : xs.length ≤ 12 := by omega
      simp at h
      have hf : compL (turn1 (.nm 2) [2] (evT (run T (d + 2)) (.not (.call .is_move (.cons (.var 0) (.cons (.var 2) .nil))))) (ev (run T (d + 2)) (.var 2)) [some (wd w f b), some (.tup xs), none]) [] xs S = .ok (xs.filter fun x => !isMove (f + b) x) S := compL_filter fun x hx => by
        have hx := isDatas_mem.mp h x hx
        unfold turn1
        simp [r_is_move hx]
        cases isMove (f + b) x <;> simp
      have hc : capL (xs.filter fun x => !isMove (f + b) x) S = .ok (xs.filter fun x => !isMove (f + b) x) S := by
        unfold capL
        rw [if_pos (lim_n (by have := List.length_filter_le (fun x => !isMove (f + b) x) xs; omega))]
      simp only [d_are_moves, execs_cons, exec_ifs, exec_ret, evT_or, evT_not, evT_isi, evT_cmp, ev_var, ev_cmp, ev_fl, evL_comp, evL_disp, evR_val]
      simp [hl', hl, hf, hc, eqV_lst_nil _ (isDatas_filter h), filter_empty, areMoves, hl2]
  | ref n => simp at h
  | fn f => simp at h
  | cls c => simp at h
  | exn c vs => simp at h
  | scr ns => simp at h
  | _ => simp [d_are_moves, areMoves]
/-- a cut behind a move, at_ the door's place on its rail -/
def cutF (at_ cut : Int) (word side : PySem.Str) : Int := if decide (side = "left") && (decide (at_ = cut) || decide (cut < at_) && decide (word = "drive")) then at_ + 1 else if decide (side = "right") && (decide (at_ = cut - 1) || decide (at_ < cut) && decide (word = "drive")) then at_ else cut
/-- a standing behind a move -/
def mvF (f : Nat) (c : Int × Int) (word : PySem.Str) (door : Int) (side : PySem.Str) : Int × Int :=
  if (f : Int) ≤ door then (c.1, cutF (door - f) c.2 word side) else (cutF door c.1 word side, c.2)
theorem atI_drs {lo n : Nat} (h : 1 ≤ n) : L2.atI (drs lo n) 0 = some (.int (lo : Int)) := by
  obtain ⟨m, rfl⟩ : ∃ m, n = m + 1 := ⟨n - 1, by omega⟩
  have := atI_nat (drs lo (m + 1)) 0
  rw [show ((0 : Nat) : Int) = 0 from rfl] at this
  rw [this]
  simp [drs]
theorem rail0 (f b : Nat) : rail f b 0 = drs 0 f := rfl
theorem rail1 (f b : Nat) : rail f b 1 = drs f b := rfl
def st (c : Int × Int) : PV := .tup [.int c.1, .int c.2]
theorem r_moved {w f b : Nat} (hw : Wd w f b) {c : Int × Int} {word side : PySem.Str} {door : Int} : run T (d + 2) .moved [wd w f b, st c, .tup [.str word, .int door, .str side]] S = .ok (st (mvF f c word door side)) S := by
  have e0 := r_doors_of (d := d) (S := S) (k := 0) hw
  have e1 := r_doors_of (d := d) (S := S) (k := 1) hw
  have a0 := atI_drs (lo := 0) hw.f1
  have a1 := atI_drs (lo := f) hw.b1
  rw [rail0] at e0
  rw [rail1] at e1
  have e0 : run T (d + 1) .doors_of [wd w f b, .int 0] S = .ok (.lst (drs 0 f)) S := e0
  have e1 : run T (d + 1) .doors_of [wd w f b, .int 1] S = .ok (.lst (drs f b)) S := e1
  obtain ⟨c0, c1⟩ := c
  rw [run_eq d_moved rfl rfl rfl]
  have wdi : ∀ S, idxV S (wd w f b) (.int 1) = some (.int f) := fun S => by simp [wd]
  have key : ∀ (p1 p2 p3 p4 p5 p6 p7 : Prop) [Decidable p1] [Decidable p2] [Decidable p3] [Decidable p4] [Decidable p5] [Decidable p6] [Decidable p7] (F : Int → R PV) (A B C : Int),
      (if p1 then if p4 then F A else if p5 then if p3 then F A else if p2 then if p6 then F B else if p7 then if p3 then F B else F C else F C else F C else if p2 then if p6 then F B else if p7 then if p3 then F B else F C else F C else F C else if p2 then if p6 then F B else if p7 then if p3 then F B else F C else F C else F C) =
        F (if (decide p1 && (decide p4 || decide p5 && decide p3)) = true then A else if (decide p2 && (decide p6 || decide p7 && decide p3)) = true then B else C) := by
    intro p1 p2 p3 p4 p5 p6 p7 _ _ _ _ _ _ _ F A B C
    by_cases h1 : p1 <;> by_cases h2 : p2 <;> by_cases h3 : p3 <;> by_cases h4 : p4 <;> by_cases h5 : p5 <;> by_cases h6 : p6 <;> by_cases h7 : p7 <;> simp [h1, h2, h3, h4, h5, h6, h7]
  by_cases hr : (f : Int) ≤ door
  · simp [d_moved, wdi, st, hr, b2i, e1, a1, eqI, eqS, mvF]
    exact key _ _ _ _ _ _ _ (fun z => R.ok (PV.tup [PV.int c0, PV.int z]) S) _ _ _
  · simp [d_moved, wdi, st, hr, b2i, e0, a0, eqI, eqS, mvF]
    exact key _ _ _ _ _ _ _ (fun z => R.ok (PV.tup [PV.int z, PV.int c1]) S) _ _ _
/-- a move that is drawn -/
structure Mv where
  word : PySem.Str
  door : Nat
  side : PySem.Str
def Mv.v (m : Mv) : PV := .tup [.str m.word, .int m.door, .str m.side]
structure Mv.Ok (f b : Nat) (m : Mv) : Prop where
  word : m.word = "push" ∨ m.word = "drive"
  door : m.door < f + b
  side : m.side = "left" ∨ m.side = "right"
def mvsF (f : Nat) (c : Int × Int) (ms : List Mv) : Int × Int := ms.foldl (fun c m => mvF f c m.word m.door m.side) c
theorem r_all_moved {w f b : Nat} (hw : Wd w f b) {c : Int × Int} {ms : List Mv} : run T (d + 3) .all_moved [wd w f b, st c, .tup (ms.map Mv.v)] S = .ok (st (mvsF f c ms)) S := by
  rw [run_eq d_all_moved rfl rfl rfl]
  obtain ⟨u', e⟩ := forL_run (S := S) (f := turnF (run T (d + 2)) (.nm 3) (.cons (.asg (.nm 1) (.call .moved (.cons (.var 0) (.cons (.var 1) (.cons (.var 3) .nil))))) .nil)) (fun c u => [some (wd w f b), some (st c), some (.tup (ms.map Mv.v)), u]) Mv.v (fun c m => mvF f c m.word m.door m.side) (fun _ => True)
    (fun c u m _ => by
      have := r_moved (d := d) (S := S) hw (c := c) (word := m.word) (side := m.side) (door := m.door)
      simp [turnF, Mv.v, this]) ms c none (fun _ _ => True.intro)
  simp [d_all_moved, e, mvsF]
theorem isWhole_int {i lo hi : Int} : isWhole (.int i) lo hi = (decide (lo ≤ i) && decide (i ≤ hi)) := rfl
theorem isWhole_iff {v : PV} {lo hi : Int} (h : isWhole v lo hi = true) : ∃ i, v = .int i ∧ lo ≤ i ∧ i ≤ hi := by
  cases v with
  | int i =>
    rw [isWhole_int, Bool.and_eq_true, decide_eq_true_eq, decide_eq_true_eq] at h
    exact ⟨i, rfl, h⟩
  | _ => cases h
theorem isMove_eq {many : Int} {a b : PySem.Str} {x : PV} : isMove many (.tup [.str a, x, .str b]) = ((decide (("push" : PySem.Str) = a) || decide (("drive" : PySem.Str) = a)) && (decide (("left" : PySem.Str) = b) || decide (("right" : PySem.Str) = b)) && isWhole x 0 (many - 1)) := rfl
theorem mv_ok {f b : Nat} {m : Mv} (h : m.Ok f b) : isMove (f + b) m.v = true := by
  obtain ⟨h1, h2, h3⟩ := h
  have h4 : (0 : Int) ≤ m.door := by omega
  have h5 : (m.door : Int) ≤ f + b - 1 := by omega
  unfold Mv.v
  rw [isMove_eq, isWhole_int]
  rcases h1 with z | z <;> rcases h3 with y | y <;> simp [z, y, h4, h5]
theorem mvs_ok {f b : Nat} {ms : List Mv} (hl : ms.length ≤ 12) (h : ∀ m ∈ ms, m.Ok f b) : areMoves (f + b) (.tup (ms.map Mv.v)) = true := by
  unfold areMoves
  rw [Bool.and_eq_true, List.all_eq_true]
  exact ⟨decide_eq_true (by simpa using hl), fun x hx => by
    obtain ⟨m, hm, rfl⟩ := List.mem_map.mp hx
    exact mv_ok (h m hm)⟩
theorem mvs_data (ms : List Mv) : isData (.tup (ms.map Mv.v)) = true := by
  show isDatas _ = true
  rw [isDatas_mem]
  intro x hx
  obtain ⟨m, _, rfl⟩ := List.mem_map.mp hx
  rfl
/-- moves of which each is one -/
theorem mvs_of {f b : Nat} : ∀ {xs : List PV}, xs.all (isMove (f + b)) = true → ∃ ms : List Mv, xs = ms.map Mv.v
  | [], _ => ⟨[], rfl⟩
  | x :: xs, h => by
    rw [List.all_cons, Bool.and_eq_true] at h
    obtain ⟨ms, rfl⟩ := mvs_of h.2
    have h1 := h.1
    unfold isMove at h1
    split at h1
    · rename_i a y b'
      simp only [Bool.and_eq_true] at h1
      obtain ⟨i, rfl, g1, g2⟩ := isWhole_iff h1.2
      refine ⟨⟨a, i.toNat, b'⟩ :: ms, ?_⟩
      simp [Mv.v]
      omega
    · cases h1
/-- after(..) of any moves -/
theorem r_after {w f b : Nat} (hw : Wd w f b) {v u : PV} (hv : isData v = true) (hu : isData u = true) : ∃ r, run T (d + 4) .after [wd w f b, v, u] S = r ∧
    (if goodSt f b v = true then (if areMoves (f + b) u = true then ∃ x, r = .ok x S else r = .exc .InvalidMoves [] S) else r = .exc .InvalidStanding [] S) := by
  refine ⟨_, rfl, ?_⟩
  have e1 := r_need_wardrobe (d := d) (S := S) (wd_data (w := w) (f := f) (b := b))
  have e2 := r_need_standing (d := d + 1) (S := S) (w := w) (f := f) (b := b) hv
  have e3 := r_are_moves (d := d) (S := S) (w := w) (f := f) (b := b) hu
  have hh := hw.has
  rw [run_eq d_after rfl rfl rfl]
  by_cases h1 : goodSt f b v = true
  · by_cases h2 : areMoves (f + b) u = true
    · obtain ⟨c, rfl⟩ : ∃ c, v = st c := by
        unfold goodSt at h1
        split at h1
        · rename_i x y
          rw [Bool.and_eq_true] at h1
          obtain ⟨g1, g2⟩ := h1
          obtain ⟨i, rfl, _⟩ := isWhole_iff g1
          obtain ⟨j, rfl, _⟩ := isWhole_iff g2
          exact ⟨(i, j), rfl⟩
        · cases h1
      obtain ⟨ms, rfl⟩ : ∃ ms : List Mv, u = .tup (ms.map Mv.v) := by
        unfold areMoves at h2
        split at h2
        · rw [Bool.and_eq_true] at h2
          obtain ⟨ms, rfl⟩ := mvs_of h2.2
          exact ⟨ms, rfl⟩
        · cases h2
      have e4 := r_all_moved (d := d) (S := S) hw (c := c) (ms := ms)
      rw [if_pos h1, if_pos h2]
      exact ⟨st (mvsF f c ms), by simp [d_after, e1, hh, e2, h1, e3, h2, e4]⟩
    · rw [if_pos h1, if_neg h2]
      simp [d_after, e1, hh, e2, h1, e3, h2]
  · rw [if_neg h1]
    simp [d_after, e1, hh, e2, h1]
theorem r_after_ok {w f b : Nat} (hw : Wd w f b) {c : Int × Int} {ms : List Mv} (h1 : goodSt f b (st c) = true) (hl : ms.length ≤ 12) (h : ∀ m ∈ ms, m.Ok f b) : run T (d + 4) .after [wd w f b, st c, .tup (ms.map Mv.v)] S = .ok (st (mvsF f c ms)) S := by
  have e1 := r_need_wardrobe (d := d) (S := S) (wd_data (w := w) (f := f) (b := b))
  have e2 := r_need_standing (d := d + 1) (S := S) (w := w) (f := f) (b := b) (v := st c) rfl
  have e3 := r_are_moves (d := d) (S := S) (w := w) (f := f) (b := b) (mvs_data ms)
  have hh := hw.has
  have e4 := r_all_moved (d := d) (S := S) hw (c := c) (ms := ms)
  rw [run_eq d_after rfl rfl rfl]
  simp [d_after, e1, hh, e2, h1, e3, mvs_ok hl h, e4]
end Pw
/-! Ma8: the law's own way of moving doors. -/
namespace Pw
open PySem
variable {d : Nat} {S : PSt}
/-! ### the store's own objects -/
mutual
theorem okV_mono {n m : Nat} (h : n ≤ m) : ∀ {v : PV}, okV n v = true → okV m v = true
  | .non, _ => rfl
  | .bl _, _ => rfl
  | .int _, _ => rfl
  | .str _, _ => rfl
  | .tup xs, q => okVs_mono h (vs := xs) q
  | .lst xs, q => okVs_mono h (vs := xs) q
  | .ref k, q => by
    have q : decide (k < n) = true := q
    have q := of_decide_eq_true q
    exact decide_eq_true (by omega)
  | .fn _, _ => rfl
  | .cls _, _ => rfl
  | .exn _ xs, q => okVs_mono h (vs := xs) q
  | .scr _, _ => rfl
theorem okVs_mono {n m : Nat} (h : n ≤ m) : ∀ {vs : List PV}, okVs n vs = true → okVs m vs = true
  | [], _ => rfl
  | x :: xs, q => by
    have q : (okV n x && okVs n xs) = true := q
    rw [Bool.and_eq_true] at q
    show (okV m x && okVs m xs) = true
    rw [okV_mono h q.1, okVs_mono h q.2]
    rfl
end
mutual
theorem okV_data {n : Nat} : ∀ {v : PV}, isData v = true → okV n v = true
  | .non, _ => rfl
  | .bl _, _ => rfl
  | .int _, _ => rfl
  | .str _, _ => rfl
  | .tup xs, q => okVs_data (vs := xs) q
  | .lst xs, q => okVs_data (vs := xs) q
  | .ref k, q => by cases q
  | .fn _, _ => rfl
  | .cls _, _ => rfl
  | .exn _ _, q => by cases q
  | .scr _, _ => rfl
theorem okVs_data {n : Nat} : ∀ {vs : List PV}, isDatas vs = true → okVs n vs = true
  | [], _ => rfl
  | x :: xs, q => by
    rw [isDatas_cons, Bool.and_eq_true] at q
    show (okV n x && okVs n xs) = true
    rw [okV_data q.1, okVs_data q.2]
    rfl
end
theorem okO_mono {n m : Nat} (h : n ≤ m) {o : PO} (q : okO n o = true) : okO m o = true := by
  cases o with
  | lst xs => exact okVs_mono h q
  | dct kvs =>
    have q : (kvs.all fun p => okV n p.1 && okV n p.2) = true := q
    show (kvs.all fun p => okV m p.1 && okV m p.2) = true
    rw [List.all_eq_true] at q ⊢
    intro p hp
    have := q p hp
    rw [Bool.and_eq_true] at this ⊢
    exact ⟨okV_mono h this.1, okV_mono h this.2⟩
theorem okS_app {S : PSt} {o : PO} (h : okS S = true) (ho : okO S.length o = true) : okS (S ++ [o]) = true := by
  unfold okS at h ⊢
  rw [List.all_eq_true] at h ⊢
  intro x hx
  have : (S ++ [o]).length = S.length + 1 := by simp
  rw [this]
  rcases List.mem_append.mp hx with z | z
  · exact okO_mono (by omega) (h x z)
  · rw [List.mem_singleton.mp z]; exact okO_mono (by omega) ho
theorem okS_set {S : PSt} {o : PO} {n : Nat} (h : okS S = true) (ho : okO S.length o = true) : okS (S.set n o) = true := by
  unfold okS at h ⊢
  rw [List.all_eq_true] at h ⊢
  intro x hx
  rw [List.length_set]
  rcases List.mem_or_eq_of_mem_set hx with z | z
  · exact h x z
  · rw [z]; exact ho
theorem Dr.ok {n : Nat} {S S' : PSt} (h : okS S = true) (dr : Dr n S S') : okS S' = true := by
  obtain ⟨a, b, rfl, _⟩ := dr
  exact okS_set h rfl
theorem vat_ok {S S' : PSt} (h : okS S = true) (v : Vat S.length S') (e : ∃ o, S' = S ++ [o]) : okS S' = true := by
  obtain ⟨o, rfl⟩ := e
  obtain ⟨a, b, z, _⟩ := v
  rw [List.getElem?_append_right (Nat.le_refl _)] at z
  simp at z
  subst z
  exact okS_app h rfl
theorem fin_new {S : PSt} {xs : List PV} (hS : okS S = true) (hx : okVs S.length xs = true) : fin true S.length (.ref S.length) (S ++ [.lst xs]) = .ok (.lst xs) S := by
  have e1 : (S ++ [PO.lst xs]).length ≠ S.length := by simp
  have e2 : (S ++ [PO.lst xs])[S.length]? = some (.lst xs) := by simp
  have e3 : (S ++ [PO.lst xs]).take S.length = S := by simp
  have e4 : fz S.length (S ++ [PO.lst xs]) (.ref S.length) = .lst xs := by
    show (if S.length < S.length then PV.ref S.length else match (S ++ [PO.lst xs])[S.length]? with
      | some (.lst xs) => .lst xs
      | _ => .ref S.length) = _
    rw [if_neg (Nat.lt_irrefl _), e2]
  unfold fin
  rw [if_pos rfl, if_neg e1, e4, e3, if_pos]
  rw [Bool.and_eq_true]
  exact ⟨hx, hS⟩
theorem fin_data {S E : PSt} {v : PV} (hS : okS S = true) (hv : isData v = true) : fin true S.length v (S ++ E) = .ok v S := by
  cases E with
  | nil => rw [List.append_nil]; exact fin_same
  | cons o r =>
    have e1 : (S ++ o :: r).length ≠ S.length := by simp
    have e3 : (S ++ o :: r).take S.length = S := by simp
    have e4 : fz S.length (S ++ o :: r) v = v := by
      cases v <;> first | rfl | cases hv
    unfold fin
    rw [if_pos rfl, if_neg e1, e4, e3, if_pos]
    rw [Bool.and_eq_true]
    exact ⟨okV_data hv, hS⟩
/-! ### lists of whole numbers -/
def iL (l : List Nat) : List PV := l.map fun (i : Nat) => PV.int (i : Int)
theorem drs_iL (lo n : Nat) : drs lo n = iL (List.range' lo n) := by
  unfold drs iL
  rw [List.range'_eq_map_range, List.map_map]
  exact List.map_congr_left fun i _ => rfl
theorem compL_iL {f : PV → PSt → R (List PV)} {S : PSt} {l : List Nat} {p : Nat → Bool} (hf : ∀ i ∈ l, f (.int (i : Int)) S = .ok (if p i = true then [.int (i : Int)] else []) S) : compL f [] (iL l) S = .ok (iL (l.filter p)) S := by
  induction l with
  | nil => unfold iL compL; simp
  | cons i l ih =>
    unfold iL at ih ⊢
    rw [List.map_cons]
    unfold compL
    rw [if_pos (gdOk_nil S), hf i List.mem_cons_self, R.bind_ok, ih fun j hj => hf j (List.mem_cons_of_mem _ hj), R.bind_ok, List.filter_cons]
    split <;> rfl
theorem iL_data (l : List Nat) : isDatas (iL l) = true := isDatas_mem.mpr fun x hx => by
  obtain ⟨i, _, rfl⟩ := List.mem_map.mp hx
  rfl
theorem inV_iL (i : Nat) : ∀ l : List Nat, inV (.int (i : Int)) (iL l) = decide (i ∈ l)
  | [] => by simp [iL, inV]
  | j :: l => by
    show (pyEq (.int (j : Int)) (.int (i : Int)) || inV (.int (i : Int)) (iL l)) = _
    rw [inV_iL i l]
    have : pyEq (.int (j : Int)) (.int (i : Int)) = decide (i = j) := by
      show ((j : Int) == (i : Int)) = _
      by_cases h : i = j
      · subst h; simp
      · have : ¬ (j : Int) = i := by omega
        simp [h, this]
    rw [this]
    by_cases h1 : i = j <;> by_cases h2 : i ∈ l <;> simp [h1, h2]
/-! ### sides -/
def sdL (n : Nat) (g : Nat → PySem.Str) : List PV := (List.range n).map fun i => PV.str (g i)
theorem sdL_data (n : Nat) (g : Nat → PySem.Str) : isDatas (sdL n g) = true := isDatas_mem.mpr fun x hx => by
  obtain ⟨i, _, rfl⟩ := List.mem_map.mp hx
  rfl
theorem sdL_at {n i : Nat} {g : Nat → PySem.Str} (h : i < n) : L2.atI (sdL n g) (i : Int) = some (.str (g i)) := by
  rw [atI_nat]
  simp [sdL, h]
/-- the doors of a door's rail -/
def railF (f b door : Nat) : List Nat := if door < f then List.range' 0 f else List.range' f b
def aheadF (f b : Nat) (g : Nat → PySem.Str) (door : Nat) (side : PySem.Str) : List Nat := ((railF f b door).filter fun i => !decide (i = door) && (decide (i < door) == decide (side = "left"))).filter fun i => !decide (g i = side)
def lmF (f b : Nat) (g : Nat → PySem.Str) (word : PySem.Str) (door : Nat) (side : PySem.Str) (i : Nat) : PySem.Str :=
  if (word = "drive" ∨ aheadF f b g door side = []) ∧ (i ∈ aheadF f b g door side ∨ i = door) then side else g i
theorem set_sdL {n i : Nat} {g : Nat → PySem.Str} {s : PySem.Str} (h : i < n) : (sdL n g).set i (.str s) = sdL n fun j => if j = i then s else g j := by
  apply List.ext_getElem?
  intro j
  by_cases z : i = j
  · subst z
    rw [List.getElem?_set_self (by simpa [sdL] using h)]
    simp [sdL, h]
  · rw [List.getElem?_set_ne z]
    by_cases hj : j < n
    · have : ¬ j = i := fun w => z w.symm
      simp [sdL, hj, this]
    · simp [sdL, hj]
/-- found[one] = side for each of some doors -/
theorem put_loop {n : Nat} {s : PySem.Str} {ρ : Env} {k : Nat} (hρ : ∀ (v : PV), (ρ.set 10 (some v))[6]?.join = some (.ref k)) (hρ2 : ∀ (v : PV), (ρ.set 10 (some v))[10]?.join = some v) (hρ3 : ∀ (v : PV), (ρ.set 10 (some v))[9]?.join = some (.str s)) (h10 : 10 < ρ.length) : ∀ (l : List Nat) (g : Nat → PySem.Str) (S0 : PSt) (u : Option PV), S0.length = k → (∀ i ∈ l, i < n) →
    ∃ u', forL (turnF (run T d) (.nm 10) (.cons (.setI (.var 6) (.var 10) (.var 9)) .nil)) [] (iL l) (ρ.set 10 u) (S0 ++ [.lst (sdL n g)]) = .ok (.nx (ρ.set 10 u')) (S0 ++ [.lst (sdL n fun j => if j ∈ l then s else g j)])
  | [], g, S0, u, hk, hl => ⟨u, by unfold iL forL; simp⟩
  | i :: l, g, S0, u, hk, hl => by
    have hi := hl i List.mem_cons_self
    obtain ⟨u', e⟩ := put_loop hρ hρ2 hρ3 h10 l (fun j => if j = i then s else g j) S0 (some (.int (i : Int))) hk fun j hj => hl j (List.mem_cons_of_mem _ hj)
    refine ⟨u', ?_⟩
    have e1 : (S0 ++ [PO.lst (sdL n g)])[k]? = some (.lst (sdL n g)) := by rw [← hk]; simp
    have e2 : L2.ixN (sdL n g).length (i : Int) = some i := by
      unfold L2.ixN
      have : i < (sdL n g).length := by simpa [sdL] using hi
      rw [if_pos (by omega), if_pos (by omega)]
      simp
    have e3 : (S0 ++ [PO.lst (sdL n g)]).set k (.lst ((sdL n g).set i (.str s))) = S0 ++ [.lst (sdL n fun j => if j = i then s else g j)] := by
      rw [set_sdL hi, ← hk]
      simp
    have hs : turnF (run T d) (.nm 10) (.cons (.setI (.var 6) (.var 10) (.var 9)) .nil) (.int (i : Int)) (ρ.set 10 u) (S0 ++ [.lst (sdL n g)]) = .ok (.nx (ρ.set 10 (some (.int (i : Int))))) (S0 ++ [.lst (sdL n fun j => if j = i then s else g j)]) := by
      have h11 : 10 < (ρ.set 10 u).length := by simpa using h10
      unfold turnF
      rw [bindT_nm, if_pos h11, List.set_set]
      simp only [execs_cons, exec_setI, ev_var, hρ, hρ2, hρ3, R.ofO_some, R.bind_ok, setV_ref _ e1, e2, Option.map_some, e3, onS_nx, execs_nil]
    unfold iL at e ⊢
    rw [List.map_cons, fL_cons, hs, R.bind_ok, onF_nx, e]
    have : (fun j => if j ∈ l then s else if j = i then s else g j) = fun j => if j ∈ i :: l then s else g j := funext fun j => by
      by_cases h1 : j = i
      · subst h1; simp
      · simp [h1]
    rw [this]
theorem r_l_moved {w f b : Nat} (hw : Wd w f b) {g : Nat → PySem.Str} {m : Mv} (hm : m.door < f + b) (hS : okS S = true) :
    run T (d + 2) .l_moved [wd w f b, .lst (sdL (f + b) g), m.v] S = .ok (.lst (sdL (f + b) (lmF f b g m.word m.door m.side))) S := by
  obtain ⟨word, door, side⟩ := m
  have hm : door < f + b := hm
  have er := r_rails (d := d) (S := S) hw
  -- the rail
  have q1 : compL (turn1 (.nm 11) [11] (evT (run T (d + 1)) (.cmp .inn (.var 8) (.var 11))) (ev (run T (d + 1)) (.var 11)) [some (wd w f b), some (.lst (sdL (f + b) g)), some (.tup [.str word, .int (door : Int), .str side]), none, none, none, none, some (.str word), some (.int door), some (.str side), none, none]) [] [.lst (drs 0 f), .lst (drs f b)] S = .ok [.lst (iL (railF f b door))] S := by
    rw [drs_iL, drs_iL]
    by_cases h : door < f
    · have h2 : ¬ (f ≤ door ∧ door < f + b) := by omega
      simp [cL_cons, cL_nil, turn1, iL_data, inV_iL, h, railF, h2]
    · have h2 : (f ≤ door ∧ door < f + b) := by omega
      simp [cL_cons, cL_nil, turn1, iL_data, inV_iL, h, railF, h2]
  have lim : ∀ l : List Nat, l.length ≤ 3 → capL (iL l) S = .ok (iL l) S := fun l hl => by
    unfold capL
    rw [if_pos (lim_n (by simp [iL]; omega))]
  have hrl : (railF f b door).length ≤ 3 := by
    unfold railF
    have := hw.f2
    have := hw.b2
    split <;> simp <;> omega
  have hrm : ∀ i ∈ railF f b door, i < f + b := fun i hi => by
    unfold railF at hi
    split at hi <;> simp [List.mem_range'_1] at hi <;> omega
  -- between
  have q2 : compL (turn1 (.nm 10) [10] (evT (run T (d + 1)) (.and (.cmp .ne (.var 10) (.var 8)) (.cmp .eq (.cmp .lt (.var 10) (.var 8)) (.cmp .eq (.var 9) (.cst (.str "left")))))) (ev (run T (d + 1)) (.var 10)) [some (wd w f b), some (.lst (sdL (f + b) g)), some (.tup [.str word, .int (door : Int), .str side]), some (.lst (iL (railF f b door))), none, none, none, some (.str word), some (.int door), some (.str side), none, none]) [] (iL (railF f b door)) S = .ok (iL ((railF f b door).filter fun i => !decide (i = door) && (decide (i < door) == decide (side = "left")))) S := compL_iL fun i hi => by
    have e1 : ((i : Int) = (door : Int)) = (i = door) := propext ⟨fun h => by omega, fun h => by omega⟩
    have e2 : ∀ x y : Bool, eqV S (.bl x) (.bl y) = some (x == y) := fun x y => by
      unfold eqV
      simp [top1, pyEq]
    by_cases h1 : i = door <;> by_cases h2 : i < door <;> by_cases h3 : side = "left" <;> simp [turn1, eqI, eqS, e1, e2, h1, h2, h3] <;> omega
  have q3 : compL (turn1 (.nm 10) [10] (evT (run T (d + 1)) (.cmp .ne (.idx (.var 1) (.var 10)) (.var 9))) (ev (run T (d + 1)) (.var 10)) [some (wd w f b), some (.lst (sdL (f + b) g)), some (.tup [.str word, .int (door : Int), .str side]), some (.lst (iL (railF f b door))), some (.lst (iL ((railF f b door).filter fun i => !decide (i = door) && (decide (i < door) == decide (side = "left"))))), none, none, some (.str word), some (.int door), some (.str side), none, none]) [] (iL ((railF f b door).filter fun i => !decide (i = door) && (decide (i < door) == decide (side = "left")))) S = .ok (iL (aheadF f b g door side)) S := compL_iL fun i hi => by
    have hi := hrm i (List.mem_filter.mp hi).1
    by_cases h3 : g i = side <;> simp [turn1, sdL_at hi, eqS, h3]
  have hal : (aheadF f b g door side).length ≤ 3 := Nat.le_trans (List.length_filter_le _ _) (Nat.le_trans (List.length_filter_le _ _) hrl)
  have ham : ∀ i ∈ aheadF f b g door side, i < f + b := fun i hi => hrm i (List.mem_filter.mp (List.mem_filter.mp hi).1).1
  have hbl : ((railF f b door).filter fun i => !decide (i = door) && (decide (i < door) == decide (side = "left"))).length ≤ 3 := Nat.le_trans (List.length_filter_le _ _) hrl
  have c1 : capL [PV.lst (iL (railF f b door))] S = .ok [PV.lst (iL (railF f b door))] S := rfl
  have hP : eqV S (.lst (iL (aheadF f b g door side))) (.lst []) = some (aheadF f b g door side).isEmpty := by
    rw [eqV_lst_nil _ (iL_data _)]
    simp [iL]
  have okL : okVs S.length (sdL (f + b) g) = true := okVs_data (sdL_data _ _)
  have hl1 : (aheadF f b g door side).length + 1 ≤ LIM := lim_n (by omega)
  have wdi : ∀ S, asSeq S (.lst (sdL (f + b) g)) = some (sdL (f + b) g) := fun S => rfl
  have lp := put_loop (d := d + 1) (n := f + b) (s := side) (k := S.length) (ρ := [some (wd w f b), some (.lst (sdL (f + b) g)), some (.tup [.str word, .int (door : Int), .str side]), some (.lst (iL (railF f b door))), some (.lst (iL ((railF f b door).filter fun i => !decide (i = door) && (decide (i < door) == decide (side = "left"))))), some (.lst (iL (aheadF f b g door side))), some (.ref S.length), some (.str word), some (.int door), some (.str side), none, none]) (fun v => rfl) (fun v => rfl) (fun v => rfl) (by simp) (aheadF f b g door side ++ [door]) g S none rfl (fun i hi => by
    rcases List.mem_append.mp hi with z | z
    · exact ham i z
    · rw [List.mem_singleton.mp z]; exact hm)
  obtain ⟨u', lp⟩ := lp
  have eD : iL (aheadF f b g door side ++ [door]) = iL (aheadF f b g door side) ++ [.int (door : Int)] := by simp [iL]
  rw [eD] at lp
  have hl2 : (iL (aheadF f b g door side)).length + 1 ≤ LIM := by simpa [iL] using hl1
  have res : ∀ g' : Nat → PySem.Str, fin true S.length (.ref S.length) (S ++ [.lst (sdL (f + b) g')]) = .ok (.lst (sdL (f + b) g')) S := fun g' => fin_new hS (okVs_data (sdL_data _ _))
  have lim1 := lim _ hrl
  have lim2 := lim _ hbl
  have lim3 := lim _ hal
  simp only [List.set_cons_zero, List.set_cons_succ] at lp
  show run T (d + 2) .l_moved [wd w f b, .lst (sdL (f + b) g), .tup [.str word, .int (door : Int), .str side]] S = _
  rw [run_eq d_l_moved rfl rfl rfl]
  by_cases h1 : word = "drive"
  · have e : (fun j => if j ∈ aheadF f b g door side ++ [door] then side else g j) = lmF f b g word door side := funext fun j => by
      unfold lmF
      simp [h1]
    rw [e] at lp
    subst h1
    simp [d_l_moved, er, q1, c1, q2, lim1, lim2, q3, lim3, eqS, hl2, lp, res]
  · by_cases h2 : aheadF f b g door side = []
    · have e : (fun j => if j ∈ aheadF f b g door side ++ [door] then side else g j) = lmF f b g word door side := funext fun j => by
        unfold lmF
        simp [h2]
      rw [e] at lp
      have hP : eqV (S ++ [.lst (sdL (f + b) g)]) (.lst (iL (aheadF f b g door side))) (.lst []) = some true := by
        rw [eqV_lst_nil _ (iL_data _), h2]
        rfl
      simp [d_l_moved, er, q1, c1, q2, lim1, lim2, q3, lim3, eqS, hl2, lp, res, h1, hP]
    · have e : g = lmF f b g word door side := funext fun j => by
        unfold lmF
        simp [h1, h2]
      have hP : eqV (S ++ [.lst (sdL (f + b) g)]) (.lst (iL (aheadF f b g door side))) (.lst []) = some false := by
        rw [eqV_lst_nil _ (iL_data _)]
        simpa [iL] using h2
      rw [← e]
      simp [d_l_moved, er, q1, c1, q2, lim1, lim2, q3, lim3, eqS, hl2, res, h1, hP]
end Pw
/-! Ma9: law k06. -/
namespace Pw
open PySem
variable {d : Nat} {S : PSt}
/-- where the doors stand -/
def sideOf (f : Nat) (c : Int × Int) (i : Nat) : PySem.Str := if i < f then (if (i : Int) < c.1 then "left" else "right") else (if (i : Int) - f < c.2 then "left" else "right")
def inSt (f b : Nat) (c : Int × Int) : Bool := decide (0 ≤ c.1) && decide (c.1 ≤ f) && decide (0 ≤ c.2) && decide (c.2 ≤ b)
/-- one move, all cases -/
def step1 (f b c0 c1 door : Nat) (word side : PySem.Str) : Bool :=
  inSt f b (mvF f (c0, c1) word door side) && ((List.range (f + b)).all fun i => decide (lmF f b (sideOf f (c0, c1)) word door side i = sideOf f (mvF f (c0, c1) word door side) i))
def stepAll (f b : Nat) : Bool := (List.range (f + 1)).all fun c0 => (List.range (b + 1)).all fun c1 => (List.range (f + b)).all fun door => [("push" : PySem.Str), "drive"].all fun word => [("left" : PySem.Str), "right"].all fun side => step1 f b c0 c1 door word side
theorem steps : ∀ f, f < 4 → ∀ b, b < 4 → stepAll f b = true := by decide +kernel
theorem step_ok {w f b : Nat} (hw : Wd w f b) {c : Int × Int} {m : Mv} (hm : m.Ok f b) (hc : inSt f b c = true) : inSt f b (mvF f c m.word m.door m.side) = true ∧ sdL (f + b) (lmF f b (sideOf f c) m.word m.door m.side) = sdL (f + b) (sideOf f (mvF f c m.word m.door m.side)) := by
  have h := steps f (by have := hw.f2; omega) b (by have := hw.b2; omega)
  obtain ⟨c0, c1⟩ := c
  unfold inSt at hc
  simp only [Bool.and_eq_true, decide_eq_true_eq] at hc
  obtain ⟨⟨⟨g1, g2⟩, g3⟩, g4⟩ := hc
  obtain ⟨c0, rfl⟩ := Int.eq_ofNat_of_zero_le g1
  obtain ⟨c1, rfl⟩ := Int.eq_ofNat_of_zero_le g3
  unfold stepAll at h
  simp only [List.all_eq_true, List.mem_range] at h
  have h := h c0 (by omega) c1 (by omega) m.door hm.door m.word (by rcases hm.word with z | z <;> simp [z]) m.side (by rcases hm.side with z | z <;> simp [z])
  unfold step1 at h
  simp only [Bool.and_eq_true, List.all_eq_true, List.mem_range, decide_eq_true_eq] at h
  refine ⟨h.1, ?_⟩
  unfold sdL
  exact List.map_congr_left fun i hi => by rw [h.2 i (List.mem_range.mp hi)]
/-- the sides at first -/
def start1 (f b c0 c1 : Nat) : Bool := decide ((List.replicate c0 ("left" : PySem.Str) ++ List.replicate (f - c0) ("right" : PySem.Str)) ++ (List.replicate c1 ("left" : PySem.Str) ++ List.replicate (b - c1) ("right" : PySem.Str)) = (List.range (f + b)).map (sideOf f (c0, c1)))
theorem starts : ∀ f, f < 4 → ∀ b, b < 4 → ∀ c0, c0 < f + 1 → ∀ c1, c1 < b + 1 → start1 f b c0 c1 = true := by decide +kernel
def count1 (f b c0 c1 : Nat) : Bool := decide (((List.range' 0 f).filter fun i => decide (sideOf f (c0, c1) i = "left")).length = c0) && decide (((List.range' f b).filter fun i => decide (sideOf f (c0, c1) i = "left")).length = c1)
theorem counts : ∀ f, f < 4 → ∀ b, b < 4 → ∀ c0, c0 < f + 1 → ∀ c1, c1 < b + 1 → count1 f b c0 c1 = true := by decide +kernel
theorem goodSt_st (f b : Nat) (c : Int × Int) : goodSt f b (st c) = ((decide (0 ≤ c.1) && decide (c.1 ≤ f)) && (decide (0 ≤ c.2) && decide (c.2 ≤ b))) := rfl
@[simp] theorem zipL_nil (ys : List PV) : zipL [] ys = [] := by unfold zipL; rfl
@[simp] theorem zipL_cons (x y : PV) (xs ys : List PV) : zipL (x :: xs) (y :: ys) = .tup [x, y] :: zipL xs ys := by rw [zipL]
@[simp] theorem drs_len (lo n : Nat) : (drs lo n).length = n := by simp [drs]
theorem mul_rep (S : PSt) (x : PV) {i : Int} {n : Nat} (h : i = n) (hn : n ≤ 1000) : binV S .mul (.lst [x]) (.int i) = some (.lst (List.replicate n x)) := by
  subst h
  have e : (List.replicate n [x]).flatten = List.replicate n x := by
    induction n with
    | zero => rfl
    | succ n ih => rw [List.replicate_succ, List.flatten_cons, ih (by omega), List.replicate_succ]; rfl
  have l : n ≤ LIM := lim_n (by omega)
  have h1 : (-1000000 : Int) < n := by omega
  have h2 : (n : Int) < 1000000 := by omega
  simp [e, h1, h2, l]
theorem sdL_app (l : List PySem.Str) {n : Nat} {g : Nat → PySem.Str} (h : l = (List.range n).map g) : l.map PV.str = sdL n g := by
  subst h
  unfold sdL
  rw [List.map_map]
  rfl
theorem r_l_right {w f b : Nat} (hw : Wd w f b) {c0 c1 : Nat} (h0 : c0 ≤ f) (h1 : c1 ≤ b) {ms : List Mv} (hl : ms.length ≤ 12) (hm : ∀ m ∈ ms, m.Ok f b) (hS : okS S = true) :
    run T (d + 5) .l_right [wd w f b, st (c0, c1), .tup (ms.map Mv.v)] S = .ok (.bl true) S := by
  have er := r_rails (d := d + 3) (S := S) hw
  have hf := hw.f2
  have hb := hw.b2
  have hin : inSt f b (c0, c1) = true := by unfold inSt; simp; omega
  have ea := r_after_ok (d := d) (S := S) hw (c := (c0, c1)) (ms := ms) (by rw [goodSt_st]; simp; omega) hl hm
  have hst := starts f (by omega) b (by omega) c0 (by omega) c1 (by omega)
  have hst := sdL_app _ (of_decide_eq_true hst)
  rw [List.map_append, List.map_append, List.map_append, List.map_replicate, List.map_replicate, List.map_replicate, List.map_replicate] at hst
  have m1 := mul_rep S (.str "left") (i := (c0 : Int)) rfl (by omega)
  have m2 := mul_rep S (.str "right") (i := (f : Int) - c0) (n := f - c0) (by omega) (by omega)
  have m3 := mul_rep S (.str "left") (i := (c1 : Int)) rfl (by omega)
  have m4 := mul_rep S (.str "right") (i := (b : Int) - c1) (n := b - c1) (by omega) (by omega)
  have l0 : c0 ≤ LIM := lim_n (by omega)
  have l1 : c0 + (f - c0) ≤ LIM := lim_n (by omega)
  have l2 : c0 + (f - c0) + c1 ≤ LIM := lim_n (by omega)
  have l3 : c0 + (f - c0 + c1) + (b - c1) ≤ LIM := lim_n (by omega)
  rw [List.append_assoc] at hst
  -- the moves
  obtain ⟨⟨u', el⟩, hin'⟩ := forL_runI (S := S) (f := turnF (run T (d + 4)) (.nm 4) (.cons (.asg (.nm 3) (.call .l_moved (.cons (.var 0) (.cons (.var 3) (.cons (.var 4) .nil))))) .nil))
    (fun c u => [some (wd w f b), some (st (c0, c1)), some (.tup (ms.map Mv.v)), some (.lst (sdL (f + b) (sideOf f c))), u, none, some (.lst (drs f b)), some (.int (c1 : Int)), none]) Mv.v (fun c m => mvF f c m.word m.door m.side) (fun m => m.Ok f b) (fun c => inSt f b c = true)
    (fun c u m hc hm => by
      obtain ⟨s1, s2⟩ := step_ok hw hm hc
      refine ⟨?_, s1⟩
      have e := r_l_moved (d := d + 2) (S := S) hw (g := sideOf f c) (m := m) hm.door hS
      rw [s2] at e
      simp [turnF, e]) ms ((c0 : Int), (c1 : Int)) none hin hm
  have el : forL _ [] (ms.map Mv.v) _ S = .ok (.nx [some (wd w f b), some (st (c0, c1)), some (.tup (ms.map Mv.v)), some (.lst (sdL (f + b) (sideOf f (mvsF f (c0, c1) ms)))), u', none, some (.lst (drs f b)), some (.int (c1 : Int)), none]) S := el
  -- how many stand on the left
  have hin' : inSt f b (mvsF f (c0, c1) ms) = true := hin'
  generalize hc' : mvsF f (c0, c1) ms = c' at *
  obtain ⟨e0, e1⟩ := c'
  unfold inSt at hin'
  simp only [Bool.and_eq_true, decide_eq_true_eq] at hin'
  obtain ⟨⟨⟨g1, g2⟩, g3⟩, g4⟩ := hin'
  obtain ⟨e0, rfl⟩ := Int.eq_ofNat_of_zero_le g1
  obtain ⟨e1, rfl⟩ := Int.eq_ofNat_of_zero_le g3
  have hct := counts f (by omega) b (by omega) e0 (by omega) e1 (by omega)
  unfold count1 at hct
  simp only [Bool.and_eq_true, decide_eq_true_eq] at hct
  obtain ⟨ct0, ct1⟩ := hct
  have hq : ∀ (l : List Nat) (r5 r6 : Option PV) (u : Option PV), (∀ i ∈ l, i < f + b) → compL (turn1 (.nm 8) [8] (evT (run T (d + 4)) (.cmp .eq (.idx (.var 3) (.var 8)) (.cst (.str "left")))) (ev (run T (d + 4)) (.var 8)) [some (wd w f b), some (st (c0, c1)), some (.tup (ms.map Mv.v)), some (.lst (sdL (f + b) (sideOf f (e0, e1)))), u', r5, r6, some (.int (c1 : Int)), u]) [] (iL l) S = .ok (iL (l.filter fun i => decide (sideOf f (e0, e1) i = "left"))) S := fun l r5 r6 u hl => compL_iL fun i hi => by
    by_cases h3 : sideOf f (e0, e1) i = "left" <;> simp [turn1, sdL_at (hl i hi), eqS, h3]
  have q0 := hq (List.range' 0 f) (some (.tup [])) (some (.lst (drs 0 f))) none (fun i hi => by simp [List.mem_range'_1] at hi; omega)
  rw [drs_iL 0 f] at q0
  have q1 := fun u => hq (List.range' f b) (some (.tup [.int (e0 : Int)])) (some (.lst (drs f b))) u (fun i hi => by simp [List.mem_range'_1] at hi; omega)
  have lim : ∀ l : List Nat, l.length ≤ 3 → capL (iL l) S = .ok (iL l) S := fun l hl => by
    unfold capL
    rw [if_pos (lim_n (by simp [iL]; omega))]
  have lim0 := lim ((List.range' 0 f).filter fun i => decide (sideOf f (e0, e1) i = "left")) (by rw [ct0]; omega)
  have lim1 := lim ((List.range' f b).filter fun i => decide (sideOf f (e0, e1) i = "left")) (by rw [ct1]; omega)
  have n0 : (iL ((List.range' 0 f).filter fun i => decide (sideOf f (e0, e1) i = "left"))).length = e0 := by unfold iL; rw [List.length_map, ct0]
  have n1 : (iL ((List.range' f b).filter fun i => decide (sideOf f (e0, e1) i = "left"))).length = e1 := by unfold iL; rw [List.length_map, ct1]
  have hs : ∀ S, srcL S (st ((c0 : Int), (c1 : Int))) = some ([.int (c0 : Int), .int (c1 : Int)], []) := fun S => rfl
  have hs2 : isStr (st ((c0 : Int), (c1 : Int))) = false := rfl
  have hE : eqV S (st ((e0 : Int), (e1 : Int))) (.tup [.int (e0 : Int), .int (e1 : Int)]) = some true := by
    unfold eqV st
    simp [top1, pyEq, pyEqs]
  have k1 : 1 ≤ LIM := by decide
  have k2 : 2 ≤ LIM := by decide
  rw [run_eq d_l_right rfl rfl rfl]
  rw [drs_iL 0 f] at er
  rw [drs_iL f b] at er el q1
  have n2 : (iL (List.range' 0 f)).length = f := by simp [iL]
  have n3 : (iL (List.range' f b)).length = b := by simp [iL]
  simp [d_l_right, er, hs, hs2, fL_cons, fL_nil, turnF, m1, m2, m3, m4, l0, l1, l2, l3, n2, n3, hst, el, q0, q1, lim0, lim1, n0, n1, hE, k1, k2, ea]
end Pw
/-! Ma10: law k06, the law itself. -/
namespace Pw
open PySem
variable {d : Nat} {S : PSt}
theorem r_l_move {w f b n : Nat} (hw : Wd w f b) (v : Vat n S) : ∃ (m : Mv) (S' : PSt), run T (d + 3) .l_move [.ref n, wd w f b] S = .ok m.v S' ∧ m.Ok f b ∧ Dr n S S' := by
  obtain ⟨x, S1, e1, a1, d1⟩ := r_some (d := d) (v := .lst [.str "left", .str "right"]) v (.inr rfl) (by decide) (by decide)
  obtain ⟨y, S2, e2, a2, d2⟩ := r_some (d := d) (v := .lst [.str "push", .str "drive"]) (d1.vat v) (.inr rfl) (by decide) (by decide)
  have hf := hw.f1
  have hf2 := hw.f2
  have hb := hw.b2
  obtain ⟨i, S3, e3, b1, b2, d3⟩ := r_under (d := d + 1) (many := (f : Int) + b) (d2.vat (d1.vat v)) (by omega) (by omega)
  obtain ⟨i, rfl⟩ := Int.eq_ofNat_of_zero_le b1
  obtain ⟨side, rfl, hs⟩ : ∃ side, x = .str side ∧ (side = "left" ∨ side = "right") := by
    simp at a1
    rcases a1 with z | z
    · exact ⟨_, z, .inl rfl⟩
    · exact ⟨_, z, .inr rfl⟩
  obtain ⟨word, rfl, hwd⟩ : ∃ word, y = .str word ∧ (word = "push" ∨ word = "drive") := by
    simp at a2
    rcases a2 with z | z
    · exact ⟨_, z, .inl rfl⟩
    · exact ⟨_, z, .inr rfl⟩
  refine ⟨⟨word, i, side⟩, S3, ?_, ⟨hwd, by show i < f + b; omega, hs⟩, d1.trans (d2.trans d3)⟩
  have wd1 : ∀ S, idxV S (wd w f b) (.int 1) = some (.int f) := fun S => by simp [wd]
  have wd2 : ∀ S, idxV S (wd w f b) (.int 2) = some (.int b) := fun S => by simp [wd]
  have e3 : run T (d + 2) .l_under [.ref n, .int ((f : Int) + b)] S2 = .ok (.int (i : Int)) S3 := e3
  have l1 := d1.len
  have l2 := d2.len
  have l3 := d3.len
  rw [run_eq d_l_move rfl rfl rfl]
  simp [d_l_move, e1, e2, e3, wd1, wd2, l1, l2, l3, Mv.v]
/-- so many moves -/
theorem r_moves {w f b n : Nat} (hw : Wd w f b) {m : Nat} (v : Vat n S) {ρ : Env} (h3 : ∀ u, (ρ.set 13 u)[3]?.join = some (.ref n)) (h4 : ∀ u, (ρ.set 13 u)[4]?.join = some (wd w f b)) (hl : 13 < ρ.length) : ∃ (ms : List Mv) (S' : PSt), compL (turn1 (.nm 13) [13] (evT (run T (d + 3)) (.cst (.bl true))) (ev (run T (d + 3)) (.call .l_move (.cons (.var 3) (.cons (.var 4) .nil)))) ρ) [] (rngL 0 m) S = .ok (ms.map Mv.v) S' ∧ ms.length = m ∧ (∀ x ∈ ms, x.Ok f b) ∧ Dr n S S' := by
  obtain ⟨r, S', e, k1, k2, k3, k4⟩ := compL_inv (f := turn1 (.nm 13) [13] (evT (run T (d + 3)) (.cst (.bl true))) (ev (run T (d + 3)) (.call .l_move (.cons (.var 3) (.cons (.var 4) .nil)))) ρ)
    (I := fun xs o S2 => o.length + xs.length = m ∧ (∃ ms : List Mv, o = ms.map Mv.v ∧ ∀ x ∈ ms, x.Ok f b) ∧ Vat n S2 ∧ Dr n S S2) (fun x xs o S2 ⟨c1, ⟨ms, c2, c3⟩, c4, c5⟩ => by
      obtain ⟨mv, S3, e3, ok3, d3⟩ := r_l_move (d := d) hw c4
      refine ⟨[mv.v], S3, ?_, by simp at c1 ⊢; omega, ⟨ms ++ [mv], by rw [c2]; simp, fun y hy => ?_⟩, d3.vat c4, c5.trans d3⟩
      · unfold turn1
        have : 13 < (wipeE ρ [13]).length := by simpa using hl
        rw [bindT_nm, if_pos this]
        simp only [wipeE_cons, wipeE_nil, List.set_set, evT_cst, truthy_bl, R.ofO_some, R.bind_ok, if_true, ev_call, evs_cons, evs_nil, ev_var, h3, h4, e3, noX_ok]
      · rcases List.mem_append.mp hy with z | z
        · exact c3 y z
        · rw [List.mem_singleton.mp z]; exact ok3) (rngL 0 m) [] S ⟨by simp [rngL], ⟨[], rfl, by simp⟩, v, v.dr⟩
  obtain ⟨ms, c2, c3⟩ := k2
  refine ⟨ms, S', ?_, ?_, c3, k4⟩
  · rw [e]
    simp at c2
    rw [c2]
  · simp at k1 c2
    rw [c2] at k1
    simpa using k1
theorem eqB (S : PSt) (x y : Bool) : eqV S (.bl x) (.bl y) = some (x == y) := by
  unfold eqV
  simp [top1, pyEq]
theorem depth_mvs (ms : List Mv) : depth (.tup (ms.map Mv.v)) ≤ 2 := by
  rw [depth_tup]
  have : depths (ms.map Mv.v) ≤ 1 := depths_le.mpr fun x hx => by
    obtain ⟨m, _, rfl⟩ := List.mem_map.mp hx
    simp [Mv.v]
  omega
theorem nice_mvs {f b : Nat} {ms : List Mv} (hf : f ≤ 3) (hb : b ≤ 3) (hl : ms.length ≤ 12) (h : ∀ m ∈ ms, m.Ok f b) : nice 0 (.tup (ms.map Mv.v)) = true := by
  rw [nice_tup, Bool.and_eq_true]
  refine ⟨decide_eq_true (by simp; omega), nices_mem.mpr fun x hx => ?_⟩
  obtain ⟨m, hm, rfl⟩ := List.mem_map.mp hx
  obtain ⟨h1, h2, h3⟩ := h m hm
  have k1 : ("left" : PySem.Str).length = 4 := by decide +kernel
  have k2 : ("right" : PySem.Str).length = 5 := by decide +kernel
  have k3 : ("push" : PySem.Str).length = 4 := by decide +kernel
  have k4 : ("drive" : PySem.Str).length = 5 := by decide +kernel
  have k5 : m.door.log2 < 200 := by
    rw [log2_lt (by omega)]
    have : (2 : Nat) ^ 3 ≤ 2 ^ 200 := Nat.pow_le_pow_right (by decide) (by decide)
    omega
  unfold Mv.v
  rcases h1 with z | z <;> rcases h3 with y | y <;> simp [z, y, k1, k2, k3, k4, k5]
end Pw
/-! Ma11: law k06, its turns. -/
namespace Pw
open PySem
variable {d : Nat} {S : PSt}
/-- one turn -/
def turnB6 : PSs := (.cons (.asg (.nm 9) (.tup (.cons (.call .l_under (.cons (.var 3) (.cons (.bin .add (.idx (.var 4) (.cst (.int 1))) (.cst (.int 1))) .nil))) (.cons (.call .l_under (.cons (.var 3) (.cons (.bin .add (.idx (.var 4) (.cst (.int 2))) (.cst (.int 1))) .nil))) .nil))))
    (.cons (.asg (.nm 10) (.blt .tuple (.cons (.fl (.comp [13] (.nm 13) (.rng (.call .l_under (.cons (.var 3) (.cons (.cst (.int 13)) .nil)))) (.cst (.bl true)) (.call .l_move (.cons (.var 3) (.cons (.var 4) .nil))))) .nil)))
    (.cons (.ifs (.not (.call .l_right (.cons (.var 4) (.cons (.var 9) (.cons (.var 10) .nil))))) (.cons (.ret (.cst (.bl false)))
    .nil) .nil)
    (.cons (.asg (.nm 11) (.call .l_bent (.cons (.var 3) (.cons (.var 10) .nil))))
    (.cons (.asg (.nm 12) (.and (.isi (.var 11) .tuple) (.cmp .lt (.blt .len (.cons (.var 11) .nil)) (.cst (.int 13)))))
    (.cons (.ifs (.var 12) (.cons (.asg (.nm 12) (.cmp .eq (.fl (.comp [13] (.nm 13) (.val (.var 11)) (.not (.call .l_is_move (.cons (.var 4) (.cons (.var 13) .nil)))) (.var 13))) (.fl (.disp .nil))))
    .nil) .nil)
    (.cons (.ifs (.cmp .ne (.cmp .eq (.err (.call .after (.cons (.var 4) (.cons (.var 9) (.cons (.var 11) .nil))))) (.cst (.str ""))) (.var 12)) (.cons (.ret (.cst (.bl false)))
    .nil) .nil)
    .nil)))))))
theorem told_moves : XC.told .InvalidMoves = "moves value" := rfl
theorem told_standing : XC.told .InvalidStanding = "standing value" := rfl
theorem ne1 : (Str.empty = ("" : PySem.Str)) = True := by decide +kernel
theorem ne2 : (("moves value" : PySem.Str) = ("" : PySem.Str)) = False := by decide +kernel
theorem r_turn6 {w f b n : Nat} (hw : Wd w f b) (v : Vat n S) (hS : okS S = true) {o0 o1 o2 o5 o6 o7 o8 o9 o10 o11 o12 o13 : Option PV} :
    ∃ (c0 c1 : Nat) (o10' o11' o12' o13' : Option PV) (S' : PSt), execs (run T (d + 10)) turnB6 [o0, o1, o2, some (.ref n), some (wd w f b), o5, o6, o7, o8, o9, o10, o11, o12, o13] S =
      .ok (.nx [o0, o1, o2, some (.ref n), some (wd w f b), o5, o6, o7, o8, some (st ((c0 : Int), (c1 : Int))), o10', o11', o12', o13']) S' ∧ c0 ≤ f ∧ c1 ≤ b ∧ Dr n S S' := by
  have hf := hw.f1
  have hf2 := hw.f2
  have hb := hw.b1
  have hb2 := hw.b2
  obtain ⟨c0, S1, e1, a1, a2, d1⟩ := r_under (d := d + 9) (many := (f : Int) + 1) v (by omega) (by omega)
  obtain ⟨c0, rfl⟩ := Int.eq_ofNat_of_zero_le a1
  obtain ⟨c1, S2, e2, b1, b2, d2⟩ := r_under (d := d + 9) (many := (b : Int) + 1) (d1.vat v) (by omega) (by omega)
  obtain ⟨c1, rfl⟩ := Int.eq_ofNat_of_zero_le b1
  obtain ⟨m, S3, e3, g1, g2, d3⟩ := r_under (d := d + 9) (many := 13) (d2.vat (d1.vat v)) (by omega) (by omega)
  obtain ⟨m, rfl⟩ := Int.eq_ofNat_of_zero_le g1
  have v3 := d3.vat (d2.vat (d1.vat v))
  obtain ⟨ms, S4, e4, l4, ok4, d4⟩ := r_moves (d := d + 7) hw (m := m) v3 (ρ := [o0, o1, o2, some (.ref n), some (wd w f b), o5, o6, o7, o8, some (st ((c0 : Int), (c1 : Int))), o10, o11, o12, o13]) (fun u => rfl) (fun u => rfl) (by simp)
  have v4 := d4.vat v3
  have dd := d1.trans (d2.trans (d3.trans d4))
  have hS4 := dd.ok hS
  have e5 := r_l_right (d := d + 5) hw (c0 := c0) (c1 := c1) (by omega) (by omega) (ms := ms) (by omega) ok4 hS4
  obtain ⟨u, S5, e6, nu, du, d5⟩ := r_bent (n := n) (N := 0) (by omega) 2 (d := d + 2) (S := S4) (depth_mvs ms) (nice_mvs hf2 hb2 (by omega) ok4) v4
  have hu := nice_data nu
  obtain ⟨r, e7, h7⟩ := r_after (d := d + 6) (S := S5) hw (v := st ((c0 : Int), (c1 : Int))) (u := u) rfl hu
  have hg : goodSt f b (st ((c0 : Int), (c1 : Int))) = true := by rw [goodSt_st]; simp; omega
  rw [if_pos hg] at h7
  have wd1 : ∀ S, idxV S (wd w f b) (.int 1) = some (.int f) := fun S => by simp [wd]
  have wd2 : ∀ S, idxV S (wd w f b) (.int 2) = some (.int b) := fun S => by simp [wd]
  have s1 : small62 (m : Int) = true := small_i (by omega) (by omega)
  have c4 : capL (ms.map Mv.v) S4 = .ok (ms.map Mv.v) S4 := by
    unfold capL
    rw [if_pos (lim_n (by simp; omega))]
  have e1 : run T (d + 10) .l_under [.ref n, .int ((f : Int) + 1)] S = .ok (.int (c0 : Int)) S1 := e1
  have e2 : run T (d + 10) .l_under [.ref n, .int ((b : Int) + 1)] S1 = .ok (.int (c1 : Int)) S2 := e2
  have e3 : run T (d + 10) .l_under [.ref n, .int 13] S2 = .ok (.int (m : Int)) S3 := e3
  have e5 : run T (d + 10) .l_right [wd w f b, st ((c0 : Int), (c1 : Int)), .tup (ms.map Mv.v)] S4 = .ok (.bl true) S4 := e5
  have e6 : run T (d + 10) .l_bent [.ref n, .tup (ms.map Mv.v)] S4 = .ok u S5 := e6
  have e7 : run T (d + 10) .after [wd w f b, st ((c0 : Int), (c1 : Int)), u] S5 = r := e7
  have e3' : tellE r = .ok (.str (if areMoves (f + b) u = true then Str.empty else "moves value")) S5 := by
    by_cases h : areMoves (f + b) u = true
    · rw [if_pos h] at h7 ⊢
      obtain ⟨x, rfl⟩ := h7
      rfl
    · rw [if_neg h] at h7 ⊢
      rw [h7]
      rfl
  have key : ∀ o12' : Bool, areMoves (f + b) u = o12' → eqV S5 (.bl (decide ((if areMoves (f + b) u = true then Str.empty else ("moves value" : PySem.Str)) = ("" : PySem.Str)))) (.bl o12') = some true := fun o12' h => by
    subst h
    rw [eqB]
    cases areMoves (f + b) u
    · simp [ne2]
    · simp [ne1]
  have stE : ∀ x y : Int, PV.tup [.int x, .int y] = st (x, y) := fun x y => rfl
  by_cases ht : ∃ xs, u = .tup xs
  · obtain ⟨xs, rfl⟩ := ht
    by_cases hl : xs.length < 13
    · have hl' : (xs.length : Int) < 13 := by omega
      have hfil : compL (turn1 (.nm 13) [13] (evT (run T (d + 10)) (.not (.call .l_is_move (.cons (.var 4) (.cons (.var 13) .nil))))) (ev (run T (d + 10)) (.var 13)) [o0, o1, o2, some (.ref n), some (wd w f b), o5, o6, o7, o8, some (st ((c0 : Int), (c1 : Int))), some (.tup (ms.map Mv.v)), some (.tup xs), some (.bl true), o13]) [] xs S5 = .ok (xs.filter fun x => !isMove (f + b) x) S5 := compL_filter fun x hx => by
        have hx := isDatas_mem.mp (show isDatas xs = true from hu) x hx
        unfold turn1
        have := r_l_is_move (d := d + 8) (S := S5) (w := w) (f := f) (b := b) hx
        simp [this]
        cases isMove (f + b) x <;> simp
      have hc : capL (xs.filter fun x => !isMove (f + b) x) S5 = .ok (xs.filter fun x => !isMove (f + b) x) S5 := by
        unfold capL
        rw [if_pos (lim_n (by have := List.length_filter_le (fun x => !isMove (f + b) x) xs; omega))]
      have hq := eqV_lst_nil S5 (isDatas_filter (p := fun x => !isMove (f + b) x) (show isDatas xs = true from hu))
      rw [filter_empty] at hq
      have hA : areMoves (f + b) (.tup xs) = xs.all (isMove (f + b)) := by
        show (decide (xs.length ≤ 12) && _) = _
        rw [decide_eq_true (by omega), Bool.true_and]
      have key := key _ hA
      refine ⟨c0, c1, some (.tup (ms.map Mv.v)), some (.tup xs), some (.bl (xs.all (isMove (f + b)))), o13, S5, ?_, by omega, by omega, dd.trans d5⟩
      simp [turnB6, wd1, wd2, e1, e2, e3, stE, s1, e4, c4, e5, e6, hl', hfil, hc, hq, e7, e3', eqS, key]
    · have hl' : ¬ (xs.length : Int) < 13 := by omega
      have hA : areMoves (f + b) (.tup xs) = false := by
        show (decide (xs.length ≤ 12) && _) = _
        rw [decide_eq_false (by omega), Bool.false_and]
      have key := key _ hA
      refine ⟨c0, c1, some (.tup (ms.map Mv.v)), some (.tup xs), some (.bl false), o13, S5, ?_, by omega, by omega, dd.trans d5⟩
      simp [turnB6, wd1, wd2, e1, e2, e3, stE, s1, e4, c4, e5, e6, hl', e7, e3', eqS, key]
  · have hT : ∀ S, tyV S u .tuple = some false := fun S => by
      cases u with
      | tup xs => exact absurd ⟨xs, rfl⟩ ht
      | ref _ => cases hu
      | fn _ => cases hu
      | cls _ => cases hu
      | exn _ _ => cases hu
      | scr _ => cases hu
      | _ => rfl
    have hA : areMoves (f + b) u = false := by
      cases u with
      | tup xs => exact absurd ⟨xs, rfl⟩ ht
      | _ => rfl
    have key := key _ hA
    refine ⟨c0, c1, some (.tup (ms.map Mv.v)), some u, some (.bl false), o13, S5, ?_, by omega, by omega, dd.trans d5⟩
    simp [turnB6, wd1, wd2, e1, e2, e3, stE, s1, e4, c4, e5, e6, hT, e7, e3', eqS, key]
end Pw
/-! Ma12: law k06 holds of the interpreter. -/
namespace Pw
open PySem
variable {d : Nat} {S : PSt}
def outB6 : PSs := (.cons (.asg (.nm 3) (.call .l_vat (.cons (.var 0) (.cons (.var 1) .nil))))
    (.cons (.asg (.nm 4) (.call .l_wardrobe (.cons (.var 3) (.cons (.cst (.int 6)) .nil))))
    (.cons (.for_ (.nm 5) (.rng (.cst (.int 5))) turnB6)
    (.cons (.for_ (.nm 6) (.val (.fl (.disp (.cons (.cst .non) (.cons (.tup (.cons (.cst (.int 0)) .nil)) (.cons (.tup (.cons (.cst (.int 0)) (.cons (.cst (.int 9)) .nil))) (.cons (.tup (.cons (.neg (.cst (.int 1))) (.cons (.cst (.int 0)) .nil))) (.cons (.fl (.disp (.cons (.cst (.int 0)) (.cons (.cst (.int 0)) .nil)))) (.cons (.tup (.cons (.cst (.bl true)) (.cons (.cst (.int 0)) .nil))) .nil))))))))) (.cons (.ifs (.cmp .ne (.err (.call .after (.cons (.var 4) (.cons (.var 6) (.cons (.cst .non) .nil))))) (.cst (.str "standing value"))) (.cons (.ret (.cst (.bl false)))
    .nil) .nil)
    .nil))
    (.cons (.ifs (.cmp .ne (.err (.call .after (.cons (.var 4) (.cons (.var 9) (.cons (.bin .mul (.tup (.cons (.tup (.cons (.cst (.str "push")) (.cons (.cst (.int 0)) (.cons (.cst (.str "left")) .nil)))) .nil)) (.cst (.int 13))) .nil))))) (.cst (.str "moves value"))) (.cons (.ret (.cst (.bl false)))
    .nil) .nil)
    .nil)))))
def endB6 : PSs := (.cons (.asg (.tp [(.nm 7), (.nm 8)]) (.tup (.cons (.tup (.cons (.cst (.int 9)) (.cons (.cst (.int 3)) (.cons (.cst (.int 1)) .nil)))) (.cons (.tup (.cons (.cst (.str "push")) (.cons (.cst (.int 1)) (.cons (.cst (.str "right")) .nil)))) .nil))))
    (.cons (.asg (.nm 2) (.fl (.disp (.cons (.call .after (.cons (.var 7) (.cons (.tup (.cons (.cst (.int 3)) (.cons (.cst (.int 0)) .nil))) (.cons (.tup (.cons (.var 8) .nil)) .nil)))) (.cons (.call .after (.cons (.var 7) (.cons (.tup (.cons (.cst (.int 2)) (.cons (.cst (.int 0)) .nil))) (.cons (.tup (.cons (.var 8) .nil)) .nil)))) (.cons (.call .after (.cons (.var 7) (.cons (.tup (.cons (.cst (.int 3)) (.cons (.cst (.int 0)) .nil))) (.cons (.tup (.cons (.tup (.cons (.cst (.str "drive")) (.cons (.cst (.int 1)) (.cons (.cst (.str "right")) .nil)))) .nil)) .nil)))) (.cons (.call .after (.cons (.var 7) (.cons (.tup (.cons (.cst (.int 0)) (.cons (.cst (.int 1)) .nil))) (.cons (.tup (.cons (.tup (.cons (.cst (.str "push")) (.cons (.cst (.int 2)) (.cons (.cst (.str "left")) .nil)))) .nil)) .nil)))) .nil)))))))
    (.cons (.ifs (.or (.cmp .ne (.var 2) (.fl (.disp (.cons (.tup (.cons (.cst (.int 3)) (.cons (.cst (.int 0)) .nil))) (.cons (.tup (.cons (.cst (.int 1)) (.cons (.cst (.int 0)) .nil))) (.cons (.tup (.cons (.cst (.int 1)) (.cons (.cst (.int 0)) .nil))) (.cons (.tup (.cons (.cst (.int 0)) (.cons (.cst (.int 1)) .nil))) .nil))))))) (.cmp .ne (.call .after (.cons (.var 7) (.cons (.tup (.cons (.cst (.int 0)) (.cons (.cst (.int 1)) .nil))) (.cons (.tup (.cons (.tup (.cons (.cst (.str "drive")) (.cons (.cst (.int 2)) (.cons (.cst (.str "left")) .nil)))) (.cons (.tup (.cons (.cst (.str "push")) (.cons (.cst (.int 3)) (.cons (.cst (.str "right")) .nil)))) .nil))) .nil)))) (.tup (.cons (.cst (.int 3)) (.cons (.cst (.int 0)) .nil))))) (.cons (.ret (.cst (.bl false)))
    .nil) .nil)
    (.cons (.ret (.cmp .eq (.call .after (.cons (.var 7) (.cons (.tup (.cons (.cst (.int 2)) (.cons (.cst (.int 1)) .nil))) (.cons (.tup (.cons (.tup (.cons (.cst (.str "drive")) (.cons (.cst (.int 0)) (.cons (.cst (.str "left")) .nil)))) (.cons (.tup (.cons (.cst (.str "drive")) (.cons (.cst (.int 2)) (.cons (.cst (.str "right")) .nil)))) (.cons (.tup (.cons (.cst (.str "push")) (.cons (.cst (.int 3)) (.cons (.cst (.str "left")) .nil)))) .nil)))) .nil)))) (.tup (.cons (.cst (.int 2)) (.cons (.cst (.int 1)) .nil)))))
    .nil))))
theorem law6_body : d_law_k06.body = .cons (.for_ (.nm 1) (.rng (.blt .max2 (.cons (.cst (.int 6)) (.cons (.blt .min2 (.cons (.cst (.int 14)) (.cons (.blt .len (.cons (.var 0) .nil)) .nil))) .nil)))) outB6) endB6 := rfl
theorem goodSt_2 (f b : Nat) (x y : PV) : goodSt f b (.tup [x, y]) = (isWhole x 0 f && isWhole y 0 b) := rfl
theorem areMoves_tup (m : Int) (xs : List PV) : areMoves m (.tup xs) = (decide (xs.length ≤ 12) && xs.all (isMove m)) := rfl
theorem goodSt_other {w f b : Nat} (hw : Wd w f b) {u : PV} (h : isData u = true) {v : PV} (hv : isData v = true) (hg : goodSt f b v = false) : tellE (run T (d + 4) .after [wd w f b, v, u] S) = .ok (.str "standing value") S := by
  obtain ⟨r, e, h⟩ := r_after (d := d) (S := S) hw hv h
  rw [hg, if_neg Bool.false_ne_true] at h
  rw [e, h]
  rfl
theorem r_out6 {ns : List Int} {k : Nat} (hk : k < 1000) (hS : okS S = true) {o2 o3 o4 o5 o6 o7 o8 o9 o10 o11 o12 o13 : Option PV} :
    ∃ (o3' o4' o5' o6' o9' o10' o11' o12' o13' : Option PV) (S' : PSt), execs (run T (d + 10)) outB6 [some (.scr ns), some (.int (k : Int)), o2, o3, o4, o5, o6, o7, o8, o9, o10, o11, o12, o13] S =
      .ok (.nx [some (.scr ns), some (.int (k : Int)), o2, o3', o4', o5', o6', o7, o8, o9', o10', o11', o12', o13']) S' ∧ okS S' = true := by
  obtain ⟨S1, e1, v1, x1⟩ := r_vat (d := d + 9) (ns := ns) (S := S) hk
  have hS1 := vat_ok hS v1 x1
  obtain ⟨w, f, b, S2, e2, _, _, hw, d2⟩ := r_wardrobe (d := d + 8) v1
  have v2 := d2.vat v1
  have hS2 := d2.ok hS1
  have e1 : run T (d + 10) .l_vat [.scr ns, .int (k : Int)] S = .ok (.ref S.length) S1 := e1
  have e2 : run T (d + 10) .l_wardrobe [.ref S.length, .int 6] S1 = .ok (wd w f b) S2 := e2
  -- five turns
  obtain ⟨ρ3, S3, e3, i3⟩ := forL_inv (f := turnF (run T (d + 10)) (.nm 5) turnB6) (fun xs ρ S3 => ∃ p5 p6 p9 p10 p11 p12 p13, ρ = [some (.scr ns), some (.int (k : Int)), o2, some (.ref S.length), some (wd w f b), p5, p6, o7, o8, p9, p10, p11, p12, p13] ∧ (xs.length = 5 ∨ ∃ c0 c1 : Nat, c0 ≤ f ∧ c1 ≤ b ∧ p9 = some (st ((c0 : Int), (c1 : Int)))) ∧ Vat S.length S3 ∧ okS S3 = true) (fun x xs ρ S3 ⟨p5, p6, p9, p10, p11, p12, p13, eρ, _, v3, s3⟩ => by
    subst eρ
    obtain ⟨c0, c1, q10, q11, q12, q13, S4, e4, g0, g1, d4⟩ := r_turn6 (d := d) hw v3 s3 (o0 := some (.scr ns)) (o1 := some (.int (k : Int))) (o2 := o2) (o5 := some x) (o6 := p6) (o7 := o7) (o8 := o8) (o9 := p9) (o10 := p10) (o11 := p11) (o12 := p12) (o13 := p13)
    refine ⟨[some (.scr ns), some (.int (k : Int)), o2, some (.ref S.length), some (wd w f b), some x, p6, o7, o8, some (st ((c0 : Int), (c1 : Int))), q10, q11, q12, q13], S4, ?_, some x, p6, some (st ((c0 : Int), (c1 : Int))), q10, q11, q12, q13, rfl, .inr ⟨c0, c1, g0, g1, rfl⟩, d4.vat v3, d4.ok s3⟩
    unfold turnF
    simp [e4]) (rngL 0 5) [some (.scr ns), some (.int (k : Int)), o2, some (.ref S.length), some (wd w f b), o5, o6, o7, o8, o9, o10, o11, o12, o13] S2 ⟨o5, o6, o9, o10, o11, o12, o13, rfl, .inl rfl, v2, hS2⟩
  obtain ⟨p5, p6, p9, p10, p11, p12, p13, eρ, h9, v3, s3⟩ := i3
  subst eρ
  obtain ⟨c0, c1, g0, g1, rfl⟩ : ∃ c0 c1 : Nat, c0 ≤ f ∧ c1 ≤ b ∧ p9 = some (st ((c0 : Int), (c1 : Int))) := by
    rcases h9 with z | z
    · cases z
    · exact z
  have hf := hw.f1
  have hf2 := hw.f2
  have hb := hw.b1
  have hb2 := hw.b2
  have sm5 : small62 5 = true := small_i (by decide) (by decide)
  have t1 := fun v hv hg => goodSt_other (d := d + 6) (S := S3) hw (u := .non) rfl (v := v) hv hg
  have h0 := t1 .non rfl rfl
  have h1 := t1 (.tup [.int 0]) rfl rfl
  have h2 := t1 (.tup [.int 0, .int 9]) rfl (by
    rw [goodSt_2, isWhole_int, isWhole_int, decide_eq_false (show ¬ (9 : Int) ≤ b by omega)]
    simp)
  have h3 := t1 (.tup [.int (-1), .int 0]) rfl (by
    rw [goodSt_2, isWhole_int]
    simp)
  have h4 := t1 (.lst [.int 0, .int 0]) rfl rfl
  have h5 := t1 (.tup [.bl true, .int 0]) rfl rfl
  have hm : tellE (run T (d + 10) .after [wd w f b, st ((c0 : Int), (c1 : Int)), .tup (List.replicate 13 (.tup [.str "push", .int 0, .str "left"]))] S3) = .ok (.str "moves value") S3 := by
    obtain ⟨r, e, h⟩ := r_after (d := d + 6) (S := S3) hw (v := st ((c0 : Int), (c1 : Int))) (u := .tup (List.replicate 13 (.tup [.str "push", .int 0, .str "left"]))) rfl rfl
    have hg : goodSt f b (st ((c0 : Int), (c1 : Int))) = true := by rw [goodSt_st]; simp; omega
    have hA : areMoves (f + b) (.tup (List.replicate 13 (.tup [.str "push", .int 0, .str "left"]))) = false := by
      rw [areMoves_tup, decide_eq_false (by simp), Bool.false_and]
    rw [if_pos hg, hA, if_neg Bool.false_ne_true] at h
    rw [e, h]
    rfl
  have hrep : (List.replicate (13 : Int).toNat [PV.tup [.str "push", .int 0, .str "left"]]).flatten = List.replicate 13 (.tup [.str "push", .int 0, .str "left"]) := rfl
  refine ⟨some (.ref S.length), some (wd w f b), p5, some (.tup [.bl true, .int 0]), some (st ((c0 : Int), (c1 : Int))), p10, p11, p12, p13, S3, ?_, s3⟩
  have e3 : forL (turnF (run T (d + 10)) (.nm 5) turnB6) [] (rngL 0 5) [some (.scr ns), some (.int (k : Int)), o2, some (.ref S.length), some (wd w f b), o5, o6, o7, o8, o9, o10, o11, o12, o13] S2 = .ok (.nx [some (.scr ns), some (.int (k : Int)), o2, some (.ref S.length), some (wd w f b), p5, p6, o7, o8, some (st ((c0 : Int), (c1 : Int))), p10, p11, p12, p13]) S3 := e3
  have hm' := hm
  simp [List.replicate] at hm'
  simp [outB6, e1, e2, sm5, e3, fL_cons, fL_nil, turnF, h0, h1, h2, h3, h4, h5, eqS, hrep, hm']
/-- what was worked out by hand -/
theorem after_hand (c : Int × Int) (ms : List Mv) (c' : Int × Int) (h1 : goodSt 3 1 (st c) = true) (hl : ms.length ≤ 12) (h : ∀ m ∈ ms, m.Ok 3 1) (e : mvsF 3 c ms = c') : run T (d + 4) .after [.tup [.int 9, .int 3, .int 1], st c, .tup (ms.map Mv.v)] S = .ok (st c') S := by
  rw [← e]
  exact r_after_ok (w := 9) (f := 3) (b := 1) ⟨by decide, by decide, by decide, by decide, by decide, by decide⟩ h1 hl h
def okMv (f b : Nat) (m : Mv) : Bool := (decide (m.word = "push") || decide (m.word = "drive")) && decide (m.door < f + b) && (decide (m.side = "left") || decide (m.side = "right"))
theorem okMv_ok {f b : Nat} {ms : List Mv} (h : ms.all (okMv f b) = true) : ∀ m ∈ ms, m.Ok f b := fun m hm => by
  have := List.all_eq_true.mp h m hm
  unfold okMv at this
  simp only [Bool.and_eq_true, Bool.or_eq_true, decide_eq_true_eq] at this
  exact ⟨this.1.1, this.1.2, this.2⟩
theorem law6 (ns : List Int) (hn : ns.length ≤ 63) : ∃ S', run T (40 + 1) .law_k06 [.scr ns] [] = .ok (.bl true) S' := by
  refine ⟨[], ?_⟩
  rw [run_eq d_law_k06 rfl rfl rfl, law6_body]
  -- the rounds
  have loop : ∀ m : Nat, m ≤ 14 → ∃ ρ' S', forL (turnF (run T 40) (.nm 1) outB6) [] (rngL 0 m) [some (.scr ns), none, none, none, none, none, none, none, none, none, none, none, none, none] [] = .ok (.nx ρ') S' ∧ (∃ o1 o2 o3 o4 o5 o6 o7 o8 o9 o10 o11 o12 o13, ρ' = [some (.scr ns), o1, o2, o3, o4, o5, o6, o7, o8, o9, o10, o11, o12, o13]) ∧ okS S' = true := fun m hm => by
    obtain ⟨ρ', S', e, i1, i2, _⟩ := forL_inv (f := turnF (run T 40) (.nm 1) outB6) (fun xs ρ S => (∃ o1 o2 o3 o4 o5 o6 o7 o8 o9 o10 o11 o12 o13, ρ = [some (.scr ns), o1, o2, o3, o4, o5, o6, o7, o8, o9, o10, o11, o12, o13]) ∧ okS S = true ∧ ∀ x ∈ xs, ∃ k : Nat, k < 1000 ∧ x = .int (k : Int)) (fun x xs ρ S ⟨⟨o1, o2, o3, o4, o5, o6, o7, o8, o9, o10, o11, o12, o13, eρ⟩, hS, hx⟩ => by
      subst eρ
      obtain ⟨k, hk, rfl⟩ := hx x List.mem_cons_self
      obtain ⟨p3, p4, p5, p6, p9, p10, p11, p12, p13, S', e, hS'⟩ := r_out6 (d := 30) (ns := ns) hk hS (o2 := o2) (o3 := o3) (o4 := o4) (o5 := o5) (o6 := o6) (o7 := o7) (o8 := o8) (o9 := o9) (o10 := o10) (o11 := o11) (o12 := o12) (o13 := o13)
      refine ⟨[some (.scr ns), some (.int (k : Int)), o2, p3, p4, p5, p6, o7, o8, p9, p10, p11, p12, p13], S', ?_, ⟨_, _, _, _, _, _, _, _, _, _, _, _, _, rfl⟩, hS', fun y hy => hx y (List.mem_cons_of_mem _ hy)⟩
      unfold turnF
      simp [e]) (rngL 0 m) [some (.scr ns), none, none, none, none, none, none, none, none, none, none, none, none, none] [] ⟨⟨_, _, _, _, _, _, _, _, _, _, _, _, _, rfl⟩, rfl, fun x hx => by
        unfold rngL at hx
        obtain ⟨i, hi, rfl⟩ := List.mem_map.mp hx
        exact ⟨i, by have := List.mem_range.mp hi; omega, by simp⟩⟩
    exact ⟨ρ', S', e, i1, i2⟩
  obtain ⟨ρ', S', el, ⟨o1, o2, o3, o4, o5, o6, o7, o8, o9, o10, o11, o12, o13, eρ⟩, hS'⟩ := loop (if 6 < min 14 ns.length then min 14 ns.length else 6) (by split <;> omega)
  subst eρ
  have em : (if (6 : Int) < (if (ns.length : Int) < 14 then (ns.length : Int) else 14) then (if (ns.length : Int) < 14 then (ns.length : Int) else 14) else 6) = ((if 6 < min 14 ns.length then min 14 ns.length else 6 : Nat) : Int) := by
    repeat' split
    all_goals omega
  generalize (if 6 < min 14 ns.length then min 14 ns.length else 6 : Nat) = m at el em
  have hm : small62 (m : Int) = true := small_i (by omega) (by split at em <;> omega)
  have a1 := after_hand (d := 36) (S := S') (3, 0) [⟨"push", 1, "right"⟩] (3, 0) (by decide) (by decide) (okMv_ok (by decide +kernel)) (by decide +kernel)
  have a2 := after_hand (d := 36) (S := S') (2, 0) [⟨"push", 1, "right"⟩] (1, 0) (by decide) (by decide) (okMv_ok (by decide +kernel)) (by decide +kernel)
  have a3 := after_hand (d := 36) (S := S') (3, 0) [⟨"drive", 1, "right"⟩] (1, 0) (by decide) (by decide) (okMv_ok (by decide +kernel)) (by decide +kernel)
  have a4 := after_hand (d := 36) (S := S') (0, 1) [⟨"push", 2, "left"⟩] (0, 1) (by decide) (by decide) (okMv_ok (by decide +kernel)) (by decide +kernel)
  have a5 := after_hand (d := 36) (S := S') (0, 1) [⟨"drive", 2, "left"⟩, ⟨"push", 3, "right"⟩] (3, 0) (by decide) (by decide) (okMv_ok (by decide +kernel)) (by decide +kernel)
  have a6 := after_hand (d := 36) (S := S') (2, 1) [⟨"drive", 0, "left"⟩, ⟨"drive", 2, "right"⟩, ⟨"push", 3, "left"⟩] (2, 1) (by decide) (by decide) (okMv_ok (by decide +kernel)) (by decide +kernel)
  simp [st, Mv.v] at a1 a2 a3 a4 a5 a6
  have q1 : eqV S' (.lst [.tup [.int 3, .int 0], .tup [.int 1, .int 0], .tup [.int 1, .int 0], .tup [.int 0, .int 1]]) (.lst [.tup [.int 3, .int 0], .tup [.int 1, .int 0], .tup [.int 1, .int 0], .tup [.int 0, .int 1]]) = some true := by
    unfold eqV
    simp [top1, pyEq, pyEqs]
  have q2 : eqV S' (.tup [.int 3, .int 0]) (.tup [.int 3, .int 0]) = some true := by
    unfold eqV
    simp [top1, pyEq, pyEqs]
  have q3 : eqV S' (.tup [.int 2, .int 1]) (.tup [.int 2, .int 1]) = some true := by
    unfold eqV
    simp [top1, pyEq, pyEqs]
  have fd := fin_data (S := []) (E := S') (v := .bl true) rfl rfl
  simp at fd
  simp [d_law_k06, em, hm, el, endB6, a1, a2, a3, a4, a5, a6, q1, q2, q3, fd]
end Pw
/-! Mb1: the store's last object; rows. -/
namespace Pw
open PySem
variable {d : Nat} {S : PSt}
section
variable (S0 : PSt) (xs ys : List PV) (v : PV) (i : Int)
@[simp] theorem get_last (o : PO) : (S0 ++ [o])[S0.length]? = some o := by simp
@[simp] theorem set_last (o u : PO) : (S0 ++ [o]).set S0.length u = S0 ++ [u] := by simp
@[simp] theorem isMut_last : isMut (S0 ++ [.lst xs]) (.ref S0.length) = true := isMut_ref (get_last S0 _)
@[simp] theorem appV_last : appV (S0 ++ [.lst xs]) (.ref S0.length) v = if xs.length < LIM then some (S0 ++ [.lst (xs ++ [v])]) else none := by
  rw [appV_ref v (get_last S0 _), set_last]
@[simp] theorem asList_last : asList (S0 ++ [.lst xs]) (.ref S0.length) = some xs := asList_ref (get_last S0 _)
@[simp] theorem idxV_last : idxV (S0 ++ [.lst xs]) (.ref S0.length) (.int i) = L2.atI xs i := idxV_ref (get_last S0 _)
@[simp] theorem tup_last : bltV (S0 ++ [.lst xs]) .tuple [.ref S0.length] = some (.tup xs) := bltV_tup_ref (get_last S0 _)
@[simp] theorem len_last : bltV (S0 ++ [.lst xs]) .len [.ref S0.length] = some (.int xs.length) := bltV_len_ref (get_last S0 _)
@[simp] theorem add_last : binV (S0 ++ [.lst xs]) .add (.ref S0.length) (.lst ys) = if xs.length + ys.length ≤ LIM then some (.lst (xs ++ ys)) else none := binV_rl ys (get_last S0 _)
end
theorem rngL_iL (n : Nat) : rngL 0 n = iL (List.range n) := by
  unfold rngL iL
  exact List.map_congr_left fun i _ => by simp
/-- a loop that fills the last object -/
theorem app_loop {α : Type} {f : PV → Env → PSt → R Fl} (enc : α → PV) (g : α → PV) (E : Option PV → Env) (S0 : PSt) (P : α → Prop) (h : ∀ i u xs, P i → xs.length < 10000 → f (enc i) (E u) (S0 ++ [.lst xs]) = .ok (.nx (E (some (enc i)))) (S0 ++ [.lst (xs ++ [g i])])) :
    ∀ (l : List α) (xs : List PV) (u : Option PV), (∀ i ∈ l, P i) → xs.length + l.length ≤ 10000 → ∃ u', forL f [] (l.map enc) (E u) (S0 ++ [.lst xs]) = .ok (.nx (E u')) (S0 ++ [.lst (xs ++ l.map g)])
  | [], xs, u, _, _ => ⟨u, by rw [List.map_nil, List.map_nil, fL_nil, List.append_nil]⟩
  | i :: l, xs, u, hp, hl => by
    obtain ⟨u', e⟩ := app_loop enc g E S0 P h l (xs ++ [g i]) (some (enc i)) (fun j hj => hp j (List.mem_cons_of_mem _ hj)) (by simp at hl ⊢; omega)
    refine ⟨u', ?_⟩
    rw [List.map_cons, fL_cons, h i u xs (hp i List.mem_cons_self) (by simp at hl; omega), R.bind_ok, onF_nx, e, List.map_cons, List.append_assoc]
    rfl
/-! ### rows -/
structure Rw where
  c : Int
  cs : List Int
  s : Bool
def Rw.v (r : Rw) : PV := .tup (.int r.c :: (r.cs.map PV.int ++ [.bl r.s]))
def ind (l : List Nat) (i : Nat) : Int := if i ∈ l then 1 else 0
def rowF (m : Nat) (c : Int) (more less : List Nat) (s : Bool) : Rw := ⟨c, (List.range m).map fun i => ind more i - ind less i, s⟩
def IsL (v : PV) (l : List Nat) : Prop := v = .tup (iL l) ∨ v = .lst (iL l)
theorem IsL.inn {v : PV} {l : List Nat} (h : IsL v l) (S : PSt) (i : Nat) : cmpV S .inn (.int (i : Int)) v = some (decide (i ∈ l)) := by
  rcases h with rfl | rfl
  · rw [cmpV_inn_tup, inC_tup, inV_iL]
    simp [iL_data]
  · rw [cmpV_inn_lst, inC_lst, inV_iL]
    simp [iL_data]
theorem wd1 (S : PSt) (w f b : Nat) : idxV S (wd w f b) (.int 1) = some (.int f) := by simp [wd]
theorem wd2 (S : PSt) (w f b : Nat) : idxV S (wd w f b) (.int 2) = some (.int b) := by simp [wd]
theorem wd0 (S : PSt) (w f b : Nat) : idxV S (wd w f b) (.int 0) = some (.int w) := by simp [wd]
theorem toNat_fb (f b : Nat) : ((f : Int) + (b : Int)).toNat = f + b := by omega
theorem ind_b2i (l : List Nat) (i : Nat) : b2i (decide (i ∈ l)) = ind l i := by
  unfold b2i ind
  by_cases h : i ∈ l <;> simp [h]
theorem iL_map {l : List Nat} {g : Nat → Int} : l.map (fun i => PV.int (g i)) = (l.map g).map PV.int := by rw [List.map_map]; rfl
theorem ints_data (l : List Int) : isDatas (l.map PV.int) = true := isDatas_mem.mpr fun x hx => by
  obtain ⟨i, _, rfl⟩ := List.mem_map.mp hx
  rfl
theorem isDatas_app {xs ys : List PV} : isDatas (xs ++ ys) = (isDatas xs && isDatas ys) := by
  induction xs with
  | nil => simp
  | cons x xs ih => simp [ih, Bool.and_assoc]
theorem Rw.data (r : Rw) : isData r.v = true := by
  unfold Rw.v
  simp [isDatas_app, ints_data]
theorem r_row_of {w f b : Nat} (hw : Wd w f b) {c : Int} {vm vl : PV} {more less : List Nat} {s : Bool} (hm : IsL vm more) (hl : IsL vl less) (hS : okS S = true) :
    run T (d + 1) .row_of [wd w f b, .int c, vm, vl, .bl s] S = .ok (rowF (f + b) c more less s).v S := by
  have h1 := hw.f2
  have h2 := hw.b2
  obtain ⟨u', e⟩ := app_loop (f := turnF (run T d) (.nm 6) (.cons (.app (.var 5) (.bin .sub (.blt .int (.cons (.cmp .inn (.var 6) (.var 2)) .nil)) (.blt .int (.cons (.cmp .inn (.var 6) (.var 3)) .nil)))) .nil)) (fun (i : Nat) => PV.int (i : Int)) (fun i => PV.int (ind more i - ind less i)) (fun u => [some (wd w f b), some (.int c), some vm, some vl, some (.bl s), some (.ref S.length), u]) S (fun _ => True)
    (fun i u xs _ hx => by
      have l1 : xs.length < LIM := by have : LIM = 16777216 := rfl; omega
      simp [turnF, hm.inn, hl.inn, l1, ind_b2i]) (List.range (f + b)) [] none (fun _ _ => True.intro) (by simp; omega)
  have sm : small62 ((f : Int) + b) = true := small_i (by omega) (by omega)
  have e : forL _ [] (iL (List.range (f + b))) _ _ = _ := e
  have l1 : 1 + (f + b) ≤ LIM := lim_n (by omega)
  have l2 : f + b + 1 + 1 ≤ LIM := lim_n (by omega)
  have fd := fun (E : PSt) => fin_data (E := E) (v := .tup (.int c :: (List.map (fun i => PV.int (ind more i - ind less i)) (List.range (f + b)) ++ [.bl s]))) hS (by
    rw [iL_map]
    simp only [isData_tup, isDatas_cons, isDatas_app, ints_data]
    rfl)
  rw [run_eq d_row_of rfl rfl rfl]
  simp [d_row_of, wd1, wd2, sm, toNat_fb, rngL_iL, e, l1, l2, Rw.v, rowF, Function.comp_def, fd]
theorem r_l_line {w f b : Nat} (hw : Wd w f b) {c : Int} {vm vl : PV} {more less : List Nat} {s : Bool} (hm : IsL vm more) (hl : IsL vl less) (hS : okS S = true) :
    run T (d + 1) .l_line [wd w f b, .int c, vm, vl, .bl s] S = .ok (rowF (f + b) c more less s).v S := by
  have h1 := hw.f2
  have h2 := hw.b2
  obtain ⟨u', e⟩ := app_loop (f := turnF (run T d) (.nm 6) (.cons (.app (.var 5) (.bin .sub (.ife (.cmp .inn (.var 6) (.var 2)) (.cst (.int 1)) (.cst (.int 0))) (.ife (.cmp .inn (.var 6) (.var 3)) (.cst (.int 1)) (.cst (.int 0))))) .nil)) (fun (i : Nat) => PV.int (i : Int)) (fun i => PV.int (ind more i - ind less i)) (fun u => [some (wd w f b), some (.int c), some vm, some vl, some (.bl s), some (.ref S.length), u]) S (fun _ => True)
    (fun i u xs _ hx => by
      have l1 : xs.length < LIM := by have : LIM = 16777216 := rfl; omega
      by_cases g1 : i ∈ more <;> by_cases g2 : i ∈ less <;> simp [turnF, hm.inn, hl.inn, l1, ind, g1, g2]) (List.range (f + b)) [.int c] none (fun _ _ => True.intro) (by simp; omega)
  have sm : small62 ((f : Int) + b) = true := small_i (by omega) (by omega)
  have e : forL _ [] (iL (List.range (f + b))) _ _ = _ := e
  have l2 : f + b + 1 + 1 ≤ LIM := lim_n (by omega)
  have fd := fun (E : PSt) => fin_data (E := E) (v := .tup (.int c :: (List.map (fun i => PV.int (ind more i - ind less i)) (List.range (f + b)) ++ [.bl s]))) hS (by
    rw [iL_map]
    simp only [isData_tup, isDatas_cons, isDatas_app, ints_data]
    rfl)
  rw [run_eq d_l_line rfl rfl rfl]
  simp [d_l_line, wd1, wd2, sm, toNat_fb, rngL_iL, e, l2, Rw.v, rowF, Function.comp_def, fd]
/-! ### facts -/
inductive Fact where
  | wid (one other : List Nat)
  | sum (lot : List Nat) (low : Int) (high : Option Int)
def hiV : Option Int → PV
  | none => .non
  | some i => .int i
def Fact.v : Fact → PV
  | .wid a b => .tup [.str "wider", .tup (iL a), .tup (iL b)]
  | .sum l lo hi => .tup [.str "sum", .tup (iL l), .int lo, hiV hi]
def factRows (m : Nat) : Fact → List Rw
  | .wid a b => [rowF m 0 a b false]
  | .sum l lo none => [rowF m (-lo) l [] false]
  | .sum l lo (some hi) => [rowF m (-lo) l [] false, rowF m hi [] l false]
def rV (l : List Rw) : List PV := l.map Rw.v
theorem rV_data (l : List Rw) : isDatas (rV l) = true := isDatas_mem.mpr fun x hx => by
  obtain ⟨i, _, rfl⟩ := List.mem_map.mp hx
  exact i.data
theorem wider_ne : (("sum" : PySem.Str) = "wider") = False := by decide +kernel
theorem isL_t (l : List Nat) : IsL (.tup (iL l)) l := .inl rfl
theorem isL_l (l : List Nat) : IsL (.lst (iL l)) l := .inr rfl
theorem isL_t0 : IsL (.tup []) [] := .inl rfl
theorem isL_l0 : IsL (.lst []) [] := .inr rfl
theorem isNon_hi (h : Option Int) : isNon (hiV h) = h.isNone := by cases h <;> rfl
theorem r_fact_rows {w f b : Nat} (hw : Wd w f b) (hS : okS S = true) (fa : Fact) : run T (d + 2) .fact_rows [wd w f b, fa.v] S = .ok (.lst (rV (factRows (f + b) fa))) S := by
  rw [run_eq d_fact_rows rfl rfl rfl]
  cases fa with
  | wid a b' =>
    have e := r_row_of (d := d) (S := S) hw (c := 0) (s := false) (isL_t a) (isL_t b') hS
    simp [d_fact_rows, Fact.v, eqS, e, rV, factRows]
  | sum l lo hi =>
    have e := r_row_of (d := d) (S := S) hw (c := -lo) (s := false) (isL_t l) isL_t0 hS
    have k1 : 0 < LIM := by decide
    have k2 : 1 < LIM := by decide
    cases hi with
    | none =>
      have fd := fin_new (S := S) (xs := [(rowF (f + b) (-lo) l [] false).v]) hS (okVs_data (by simp [Rw.data]))
      simp [d_fact_rows, Fact.v, eqS, wider_ne, e, rV, factRows, hiV, fd]
    | some hi =>
      have hS2 : okS (S ++ [.lst [(rowF (f + b) (-lo) l [] false).v]]) = true := okS_app hS (okVs_data (by simp [Rw.data]))
      have e2 := r_row_of (d := d) (S := S ++ [.lst [(rowF (f + b) (-lo) l [] false).v]]) hw (c := hi) (s := false) isL_t0 (isL_t l) hS2
      have fd := fin_new (S := S) (xs := [(rowF (f + b) (-lo) l [] false).v, (rowF (f + b) hi [] l false).v]) hS (okVs_data (by simp [Rw.data]))
      simp [d_fact_rows, Fact.v, eqS, wider_ne, e, e2, rV, factRows, hiV, fd, k2]
theorem r_l_fact_lines {w f b : Nat} (hw : Wd w f b) (hS : okS S = true) (fa : Fact) : run T (d + 2) .l_fact_lines [wd w f b, fa.v] S = .ok (.lst (rV (factRows (f + b) fa))) S := by
  rw [run_eq d_l_fact_lines rfl rfl rfl]
  cases fa with
  | wid a b' =>
    have e := r_l_line (d := d) (S := S) hw (c := 0) (s := false) (isL_t a) (isL_t b') hS
    simp [d_l_fact_lines, Fact.v, eqS, e, rV, factRows]
  | sum l lo hi =>
    have e := r_l_line (d := d) (S := S) hw (c := -lo) (s := false) (isL_t l) isL_l0 hS
    have k2 : 2 ≤ LIM := by decide
    cases hi with
    | none => simp [d_l_fact_lines, Fact.v, eqS, wider_ne, e, rV, factRows, hiV]
    | some hi =>
      have e2 := r_l_line (d := d) (S := S) hw (c := hi) (s := false) isL_l0 (isL_t l) hS
      simp [d_l_fact_lines, Fact.v, eqS, wider_ne, e, e2, rV, factRows, hiV, k2]
end Pw
/-! Mb2: the rows of facts. -/
namespace Pw
open PySem
variable {d : Nat} {S : PSt}
def baseRows (w f b : Nat) : List Rw := ((List.range (f + b)).map fun i => rowF (f + b) 0 [i] [] true) ++ [rowF (f + b) w [] (List.range' 0 f) false, rowF (f + b) w [] (List.range' f b) false]
def allRows (w f b : Nat) (fs : List Fact) : List Rw := baseRows w f b ++ fs.flatMap (factRows (f + b))
theorem factRows_len (m : Nat) (fa : Fact) : (factRows m fa).length ≤ 2 := by
  cases fa with
  | wid a b => simp [factRows]
  | sum l lo hi => cases hi <;> simp [factRows]
theorem flat_len (m : Nat) (fs : List Fact) : (fs.flatMap (factRows m)).length ≤ 2 * fs.length := by
  induction fs with
  | nil => simp
  | cons x xs ih =>
    have := factRows_len m x
    simp only [List.flatMap_cons, List.length_append, List.length_cons]
    omega
theorem baseRows_len (w f b : Nat) : (baseRows w f b).length = f + b + 2 := by simp [baseRows]
theorem rV_app (a b : List Rw) : rV (a ++ b) = rV a ++ rV b := by simp [rV]
theorem rV_len (a : List Rw) : (rV a).length = a.length := by simp [rV]
/-- the value that a list is kept by: none: the store's last object -/
def keptV (k : Nat) : Option (List PV) → PV
  | none => .ref k
  | some xs => .lst xs
def keptL (base : List PV) : Option (List PV) → List PV
  | none => base
  | some xs => xs
theorem kept_add (S0 : PSt) (base ys : List PV) (o : Option (List PV)) (h : (keptL base o).length + ys.length ≤ LIM) : binV (S0 ++ [.lst base]) .add (keptV S0.length o) (.lst ys) = some (.lst (keptL base o ++ ys)) := by
  cases o with
  | none =>
    show binV _ .add (.ref S0.length) _ = _
    have h : base.length + ys.length ≤ LIM := h
    rw [add_last, if_pos h]
    rfl
  | some xs =>
    show binV _ .add (.lst xs) _ = _
    have h : xs.length + ys.length ≤ LIM := h
    rw [binV_ll, if_pos h]
    rfl
theorem kept_fin {S : PSt} {base : List PV} {o : Option (List PV)} (hS : okS S = true) (hb : isDatas base = true) (ho : isDatas (keptL base o) = true) : fin true S.length (keptV S.length o) (S ++ [.lst base]) = .ok (.lst (keptL base o)) S := by
  cases o with
  | none => exact fin_new hS (okVs_data hb)
  | some xs => exact fin_data hS ho
theorem bind_onS_nil (C : Calls) (r : R Fl) (x : Fx (onS C .nil)) : bindF r (onS C .nil) x = r := by
  cases r with
  | ok fl S => cases fl <;> simp
  | _ => rfl
/-- found = found + rows(fact), for each fact -/
theorem facts_loop {w f b : Nat} {F0 : F} (base : List PV) (hb : base.length ≤ 100) (hF : ∀ (fa : Fact), run T (d + 2) F0 [wd w f b, fa.v] (S ++ [.lst base]) = .ok (.lst (rV (factRows (f + b) fa))) (S ++ [.lst base])) {o1 : Option PV} {sl : Nat} (E : PV → Option PV → Env)
    (hE : ∀ (v : PV) (u : Option PV) (x : PV) (r : PV), turnF (run T (d + 2)) (.nm sl) (.cons (.asg (.nm 2) (.bin .add (.var 2) (.call F0 (.cons (.var 0) (.cons (.var sl) .nil))))) .nil) x (E v u) (S ++ [.lst base]) = ((run T (d + 2) F0 [wd w f b, x] (S ++ [.lst base])).bind fun y S => R.ofO S (binV S .add v y)).bind fun z S => .ok (.nx (E z (some x))) S) :
    ∀ (fs : List Fact) (o : Option (List PV)) (u : Option PV), (keptL base o).length + 2 * fs.length ≤ 10000 → ∃ u' o', forL (turnF (run T (d + 2)) (.nm sl) (.cons (.asg (.nm 2) (.bin .add (.var 2) (.call F0 (.cons (.var 0) (.cons (.var sl) .nil))))) .nil)) [] (fs.map Fact.v) (E (keptV S.length o) u) (S ++ [.lst base]) =
      .ok (.nx (E (keptV S.length o') u')) (S ++ [.lst base]) ∧ keptL base o' = keptL base o ++ rV (fs.flatMap (factRows (f + b)))
  | [], o, u, _ => ⟨u, o, by rw [List.map_nil, fL_nil], by simp [rV]⟩
  | fa :: fs, o, u, hl => by
    have hln := factRows_len (f + b) fa
    have hl' : (keptL base o).length + (rV (factRows (f + b) fa)).length ≤ LIM := lim_n (by rw [rV_len]; simp at hl; omega)
    obtain ⟨u', o', e, h⟩ := facts_loop base hb hF (o1 := o1) E hE fs (some (keptL base o ++ rV (factRows (f + b) fa))) (some fa.v) (by simp [keptL, rV_len] at hl ⊢; omega)
    refine ⟨u', o', ?_, ?_⟩
    · rw [List.map_cons, fL_cons, hE _ _ _ .non, hF, R.bind_ok, kept_add _ _ _ _ hl', R.ofO_some, R.bind_ok, R.bind_ok, onF_nx]
      exact e
    · rw [h, List.flatMap_cons, rV_app, ← List.append_assoc]
      rfl
/-- a loop that fills the last object with data -/
theorem app_loopD {α : Type} {f : PV → Env → PSt → R Fl} (enc : α → PV) (g : α → PV) (E : Option PV → Env) (S0 : PSt) (P : α → Prop) (hg : ∀ i, isData (g i) = true) (h : ∀ i u xs, P i → xs.length < 10000 → isDatas xs = true → f (enc i) (E u) (S0 ++ [.lst xs]) = .ok (.nx (E (some (enc i)))) (S0 ++ [.lst (xs ++ [g i])])) :
    ∀ (l : List α) (xs : List PV) (u : Option PV), (∀ i ∈ l, P i) → xs.length + l.length ≤ 10000 → isDatas xs = true → ∃ u', forL f [] (l.map enc) (E u) (S0 ++ [.lst xs]) = .ok (.nx (E u')) (S0 ++ [.lst (xs ++ l.map g)])
  | [], xs, u, _, _, _ => ⟨u, by rw [List.map_nil, List.map_nil, fL_nil, List.append_nil]⟩
  | i :: l, xs, u, hp, hl, hd => by
    obtain ⟨u', e⟩ := app_loopD enc g E S0 P hg h l (xs ++ [g i]) (some (enc i)) (fun j hj => hp j (List.mem_cons_of_mem _ hj)) (by simp at hl ⊢; omega) (by rw [isDatas_app, hd]; simp [hg])
    refine ⟨u', ?_⟩
    rw [List.map_cons, fL_cons, h i u xs (hp i List.mem_cons_self) (by simp at hl; omega) hd, R.bind_ok, onF_nx, e, List.map_cons, List.append_assoc]
    rfl
theorem okS_last {S : PSt} {xs : List PV} (hS : okS S = true) (hx : isDatas xs = true) : okS (S ++ [.lst xs]) = true := okS_app hS (okVs_data hx)
theorem srcL_facts (S : PSt) {vf : PV} {xs : List PV} (hv : vf = .tup xs ∨ vf = .lst xs) : srcL S vf = some (xs, []) := by
  rcases hv with rfl | rfl <;> rfl
theorem iL1 (i : Nat) : [PV.int (i : Int)] = iL [i] := rfl
theorem r_all_rows {w f b : Nat} (hw : Wd w f b) (hS : okS S = true) {fs : List Fact} (hfs : fs.length ≤ 100) {vf : PV} (hv : vf = .tup (fs.map Fact.v) ∨ vf = .lst (fs.map Fact.v)) : run T (d + 3) .all_rows [wd w f b, vf] S = .ok (.lst (rV (allRows w f b fs))) S := by
  have hf := hw.f2
  have hb := hw.b2
  have lt : ∀ n : Nat, n < 10000 → n < LIM := fun n h => by have : LIM = 16777216 := rfl; omega
  -- the doors
  obtain ⟨u1, e1⟩ := app_loopD (f := turnF (run T (d + 2)) (.nm 3) (.cons (.app (.var 2) (.call .row_of (.cons (.var 0) (.cons (.cst (.int 0)) (.cons (.tup (.cons (.var 3) .nil)) (.cons (.tup .nil) (.cons (.cst (.bl true)) .nil))))))) .nil)) (fun (i : Nat) => PV.int (i : Int)) (fun i => (rowF (f + b) 0 [i] [] true).v) (fun u => [some (wd w f b), some vf, some (.ref S.length), u, none, none]) S (fun _ => True) (fun i => Rw.data _)
    (fun i u xs _ hx hd => by
      have e := r_row_of (d := d + 1) (S := S ++ [.lst xs]) hw (c := 0) (s := true) (isL_t [i]) isL_t0 (okS_last hS hd)
      rw [← iL1] at e
      simp [turnF, e, lt _ hx]) (List.range (f + b)) [] none (fun _ _ => True.intro) (by simp; omega) rfl
  have e1 : forL _ [] (iL (List.range (f + b))) _ _ = _ := e1
  have dd := rV_data ((List.range (f + b)).map fun i => rowF (f + b) 0 [i] [] true)
  have eD : List.map (fun i => (rowF (f + b) 0 [i] [] true).v) (List.range (f + b)) = rV ((List.range (f + b)).map fun i => rowF (f + b) 0 [i] [] true) := by simp [rV, Function.comp_def]
  rw [List.nil_append, eD] at e1
  generalize hB : (List.range (f + b)).map (fun i => rowF (f + b) 0 [i] [] true) = B at *
  have hBl : B.length = f + b := by rw [← hB]; simp
  -- the rails
  have d0 := r_doors_of (d := d + 1) (S := S ++ [.lst (rV B)]) (k := 0) hw
  have d1 := r_doors_of (d := d + 1) (S := S ++ [.lst (rV B ++ [(rowF (f + b) w [] (List.range' 0 f) false).v])]) (k := 1) hw
  rw [rail0, drs_iL] at d0
  rw [rail1, drs_iL] at d1
  have d0 : run T (d + 2) .doors_of [wd w f b, .int 0] (S ++ [.lst (rV B)]) = _ := d0
  have d1 : run T (d + 2) .doors_of [wd w f b, .int 1] (S ++ [.lst (rV B ++ [(rowF (f + b) w [] (List.range' 0 f) false).v])]) = _ := d1
  have dx : isDatas (rV B ++ [(rowF (f + b) w [] (List.range' 0 f) false).v]) = true := by rw [isDatas_app, dd]; simp [Rw.data]
  have r0 := r_row_of (d := d + 1) (S := S ++ [.lst (rV B)]) hw (c := w) (s := false) isL_t0 (isL_l (List.range' 0 f)) (okS_last hS dd)
  have r1 := r_row_of (d := d + 1) (S := S ++ [.lst (rV B ++ [(rowF (f + b) w [] (List.range' 0 f) false).v])]) hw (c := w) (s := false) isL_t0 (isL_l (List.range' f b)) (okS_last hS dx)
  have l0 : (rV B).length < LIM := lt _ (by rw [rV_len]; omega)
  have l1 : (rV B).length + 1 < LIM := lt _ (by rw [rV_len]; omega)
  have eb : rV B ++ [(rowF (f + b) w [] (List.range' 0 f) false).v, (rowF (f + b) w [] (List.range' f b) false).v] = rV (baseRows w f b) := by
    unfold baseRows
    rw [rV_app, hB]
    rfl
  -- the facts
  have db := rV_data (baseRows w f b)
  obtain ⟨u2, o2, e2, k2⟩ := facts_loop (d := d) (S := S) (w := w) (f := f) (b := b) (F0 := .fact_rows) (rV (baseRows w f b)) (by rw [rV_len, baseRows_len]; omega) (fun fa => r_fact_rows hw (okS_last hS db) fa) (o1 := none) (sl := 5) (fun v u => [some (wd w f b), some vf, some v, u1, some (.int 1), u])
    (fun v u x r => by simp [turnF, bind_onS_nil]; rfl) fs none none (by show (rV (baseRows w f b)).length + _ ≤ _; rw [rV_len, baseRows_len]; omega)
  have k2 : keptL (rV (baseRows w f b)) o2 = rV (allRows w f b fs) := by
    rw [k2]
    unfold allRows
    rw [rV_app]
    rfl
  have e2 : forL _ [] (fs.map Fact.v) [some (wd w f b), some vf, some (.ref S.length), u1, some (.int 1), none] _ = _ := e2
  have fd := kept_fin (base := rV (baseRows w f b)) (o := o2) hS db (by rw [k2]; exact rV_data _)
  rw [k2] at fd
  have sm : small62 ((f : Int) + b) = true := small_i (by omega) (by omega)
  rw [run_eq d_all_rows rfl rfl rfl]
  simp [d_all_rows, wd0, wd1, wd2, sm, toNat_fb, rngL_iL, e1, fL_cons, fL_nil, turnF, d0, d1, r0, r1, l0, l1, eb, srcL_facts _ hv, e2, fd]
end Pw
/-! Mb3: the law's rows, rooms, cuts. -/
namespace Pw
open PySem
variable {d : Nat} {S : PSt}
theorem r_l_lines {w f b : Nat} (hw : Wd w f b) (hS : okS S = true) {fs : List Fact} (hfs : fs.length ≤ 100) {vf : PV} (hv : vf = .tup (fs.map Fact.v) ∨ vf = .lst (fs.map Fact.v)) : run T (d + 3) .l_lines [wd w f b, vf] S = .ok (.lst (rV (allRows w f b fs))) S := by
  have hf := hw.f2
  have hb := hw.b2
  have lt : ∀ n : Nat, n < 10000 → n < LIM := fun n h => by have : LIM = 16777216 := rfl; omega
  -- the doors
  have e1 : compL (turn1 (.nm 5) [5] (evT (run T (d + 2)) (.cst (.bl true))) (ev (run T (d + 2)) (.call .l_line (.cons (.var 0) (.cons (.cst (.int 0)) (.cons (.fl (.disp (.cons (.var 5) .nil))) (.cons (.fl (.disp .nil)) (.cons (.cst (.bl true)) .nil))))))) [some (wd w f b), some vf, none, none, none, none]) [] (iL (List.range (f + b))) S = .ok (rV ((List.range (f + b)).map fun i => rowF (f + b) 0 [i] [] true)) S := by
    have h := compL_enc (S := S) (f := turn1 (.nm 5) [5] (evT (run T (d + 2)) (.cst (.bl true))) (ev (run T (d + 2)) (.call .l_line (.cons (.var 0) (.cons (.cst (.int 0)) (.cons (.fl (.disp (.cons (.var 5) .nil))) (.cons (.fl (.disp .nil)) (.cons (.cst (.bl true)) .nil))))))) [some (wd w f b), some vf, none, none, none, none]) (fun (i : Nat) => PV.int (i : Int)) (fun i => (rowF (f + b) 0 [i] [] true).v) (List.range (f + b)) fun i _ => by
      have e := r_l_line (d := d + 1) (S := S) hw (c := 0) (s := true) (isL_l [i]) isL_l0 hS
      rw [← iL1] at e
      simp [turn1, e]
    have eD : List.map (fun i => (rowF (f + b) 0 [i] [] true).v) (List.range (f + b)) = rV ((List.range (f + b)).map fun i => rowF (f + b) 0 [i] [] true) := by simp [rV, Function.comp_def]
    rw [eD] at h
    exact h
  have dd := rV_data ((List.range (f + b)).map fun i => rowF (f + b) 0 [i] [] true)
  generalize hB : (List.range (f + b)).map (fun i => rowF (f + b) 0 [i] [] true) = B at *
  have hBl : B.length = f + b := by rw [← hB]; simp
  have cB : capL (rV B) S = .ok (rV B) S := by
    unfold capL
    rw [if_pos (lim_n (by rw [rV_len]; omega))]
  have er := r_rails (d := d + 1) (S := S ++ [.lst (rV B)]) hw
  rw [drs_iL, drs_iL] at er
  have dx : isDatas (rV B ++ [(rowF (f + b) w [] (List.range' 0 f) false).v]) = true := by rw [isDatas_app, dd]; simp [Rw.data]
  have r0 := r_l_line (d := d + 1) (S := S ++ [.lst (rV B)]) hw (c := w) (s := false) isL_l0 (isL_l (List.range' 0 f)) (okS_last hS dd)
  have r1 := r_l_line (d := d + 1) (S := S ++ [.lst (rV B ++ [(rowF (f + b) w [] (List.range' 0 f) false).v])]) hw (c := w) (s := false) isL_l0 (isL_l (List.range' f b)) (okS_last hS dx)
  have l0 : (rV B).length < LIM := lt _ (by rw [rV_len]; omega)
  have l1 : (rV B).length + 1 < LIM := lt _ (by rw [rV_len]; omega)
  have eb : rV B ++ [(rowF (f + b) w [] (List.range' 0 f) false).v, (rowF (f + b) w [] (List.range' f b) false).v] = rV (baseRows w f b) := by
    unfold baseRows
    rw [rV_app, hB]
    rfl
  -- the facts
  have db := rV_data (baseRows w f b)
  obtain ⟨u2, o2, e2, k2⟩ := facts_loop (d := d) (S := S) (w := w) (f := f) (b := b) (F0 := .l_fact_lines) (rV (baseRows w f b)) (by rw [rV_len, baseRows_len]; omega) (fun fa => r_l_fact_lines hw (okS_last hS db) fa) (o1 := none) (sl := 4) (fun v u => [some (wd w f b), some vf, some v, some (.lst (iL (List.range' f b))), u, none])
    (fun v u x r => by simp [turnF, bind_onS_nil]; rfl) fs none none (by show (rV (baseRows w f b)).length + _ ≤ _; rw [rV_len, baseRows_len]; omega)
  have k2 : keptL (rV (baseRows w f b)) o2 = rV (allRows w f b fs) := by
    rw [k2]
    unfold allRows
    rw [rV_app]
    rfl
  have e2 : forL _ [] (fs.map Fact.v) [some (wd w f b), some vf, some (.ref S.length), some (.lst (iL (List.range' f b))), none, none] _ = _ := e2
  have fd := kept_fin (base := rV (baseRows w f b)) (o := o2) hS db (by rw [k2]; exact rV_data _)
  rw [k2] at fd
  have sm : small62 ((f : Int) + b) = true := small_i (by omega) (by omega)
  rw [run_eq d_l_lines rfl rfl rfl]
  simp [d_l_lines, wd0, wd1, wd2, sm, toNat_fb, rngL_iL, e1, cB, er, fL_cons, fL_nil, turnF, r0, r1, l0, l1, eb, srcL_facts _ hv, e2, fd]
/-! ### shelves -/
structure Sh where
  a : Int
  b : Int
def Sh.v (s : Sh) : PV := .tup [.int s.a, .int s.b]
def shV (l : List Sh) : PV := .tup (l.map Sh.v)
/-- how wide the rooms are -/
def roomsF (w : Int) : Int → List Sh → List Int
  | h, [] => [w - h]
  | h, s :: l => (s.a - h) :: roomsF w s.b l
theorem roomsF_len (w : Int) : ∀ (l : List Sh) (h : Int), (roomsF w h l).length = l.length + 1
  | [], _ => rfl
  | s :: l, h => by simp [roomsF, roomsF_len w l]
def nL (l : List Int) : List PV := l.map PV.int
theorem r_rooms {w f b : Nat} (hS : okS S = true) {l : List Sh} (hl : l.length = 1 ∨ l.length = 2) : run T (d + 1) .rooms [wd w f b, shV l] S = .ok (.lst (nL (roomsF w 0 l))) S := by
  have k0 : 0 < LIM := by decide
  have k1 : 1 < LIM := by decide
  have k2 : 1 + 1 ≤ LIM := by decide
  have k3 : 2 + 1 ≤ LIM := by decide
  rw [run_eq d_rooms rfl rfl rfl]
  rcases l with _ | ⟨s, _ | ⟨t, _ | ⟨u, r⟩⟩⟩
  · simp at hl
  · have fd := fin_data (E := [.lst [.int s.a]]) (v := .lst [.int s.a, .int (w - s.b)]) hS rfl
    simp [d_rooms, shV, Sh.v, fL_cons, fL_nil, turnF, k0, k2, wd0, roomsF, nL, fd]
  · have fd := fin_data (E := [.lst [.int s.a, .int (t.a - s.b)]]) (v := .lst [.int s.a, .int (t.a - s.b), .int (w - t.b)]) hS rfl
    simp [d_rooms, shV, Sh.v, fL_cons, fL_nil, turnF, k0, k1, k3, wd0, roomsF, nL, fd]
  · simp at hl
section
variable (S0 : PSt) (o1 o2 : PO) (xs ys : List PV) (v : PV) (i : Int)
@[simp] theorem get_l2 (o : PO) : (S0 ++ [o1, o])[S0.length + 1]? = some o := by simp
@[simp] theorem get_l3 (o : PO) : (S0 ++ [o1, o2, o])[S0.length + 1 + 1]? = some o := by
  rw [List.getElem?_append_right (by omega), show S0.length + 1 + 1 - S0.length = 2 by omega]
  rfl
@[simp] theorem asList_l2 : asList (S0 ++ [o1, .lst xs]) (.ref (S0.length + 1)) = some xs := asList_ref (get_l2 S0 _ _)
@[simp] theorem asList_l3 : asList (S0 ++ [o1, o2, .lst xs]) (.ref (S0.length + 1 + 1)) = some xs := asList_ref (get_l3 S0 _ _ _)
@[simp] theorem isMut_l2 : isMut (S0 ++ [o1, .lst xs]) (.ref (S0.length + 1)) = true := isMut_ref (get_l2 S0 _ _)
@[simp] theorem isMut_l3 : isMut (S0 ++ [o1, o2, .lst xs]) (.ref (S0.length + 1 + 1)) = true := isMut_ref (get_l3 S0 _ _ _)
@[simp] theorem idxV_l2 : idxV (S0 ++ [o1, .lst xs]) (.ref (S0.length + 1)) (.int i) = L2.atI xs i := idxV_ref (get_l2 S0 _ _)
@[simp] theorem idxV_l3 : idxV (S0 ++ [o1, o2, .lst xs]) (.ref (S0.length + 1 + 1)) (.int i) = L2.atI xs i := idxV_ref (get_l3 S0 _ _ _)
@[simp] theorem len_l2 : bltV (S0 ++ [o1, .lst xs]) .len [.ref (S0.length + 1)] = some (.int xs.length) := bltV_len_ref (get_l2 S0 _ _)
@[simp] theorem len_l3 : bltV (S0 ++ [o1, o2, .lst xs]) .len [.ref (S0.length + 1 + 1)] = some (.int xs.length) := bltV_len_ref (get_l3 S0 _ _ _)
@[simp] theorem appV_l2 : appV (S0 ++ [o1, .lst xs]) (.ref (S0.length + 1)) v = if xs.length < LIM then some (S0 ++ [o1, .lst (xs ++ [v])]) else none := by
  rw [appV_ref v (get_l2 S0 _ _)]
  simp
@[simp] theorem appV_l3 : appV (S0 ++ [o1, o2, .lst xs]) (.ref (S0.length + 1 + 1)) v = if xs.length < LIM then some (S0 ++ [o1, o2, .lst (xs ++ [v])]) else none := by
  rw [appV_ref v (get_l3 S0 _ _ _), List.set_append_right _ _ (by omega), show S0.length + 1 + 1 - S0.length = 2 by omega]
  rfl
end
theorem mkG3_4 (S : PSt) : mkG3 S (.int 0) (.int 4) (.int 2) = .ok ([.int 0, .int 2], []) S := rfl
theorem mkG3_6 (S : PSt) : mkG3 S (.int 0) (.int 6) (.int 2) = .ok ([.int 0, .int 2, .int 4], []) S := rfl
@[simp] theorem atI_4 {α : Type} (x y z u v : α) (xs : List α) : L2.atI (x :: y :: z :: u :: v :: xs) 4 = some v := by
  have := atI_nat (x :: y :: z :: u :: v :: xs) 4
  simpa using this
@[simp] theorem atI_5 {α : Type} (x y z u v w : α) (xs : List α) : L2.atI (x :: y :: z :: u :: v :: w :: xs) 5 = some w := by
  have := atI_nat (x :: y :: z :: u :: v :: w :: xs) 5
  simpa using this
theorem r_l_rooms {w f b : Nat} (hS : okS S = true) {l : List Sh} (hl : l.length = 1 ∨ l.length = 2) : run T (d + 1) .l_rooms [wd w f b, shV l] S = .ok (.lst (nL (roomsF w 0 l))) S := by
  rw [run_eq d_l_rooms rfl rfl rfl]
  have n1 : 3 ≤ LIM := by decide
  have n2 : 3 < LIM := by decide
  have n3 : 2 ≤ LIM := by decide
  have n4 : 5 ≤ LIM := by decide
  have n5 : 5 < LIM := by decide
  rcases l with _ | ⟨s, _ | ⟨t, _ | ⟨u, r⟩⟩⟩
  · simp at hl
  · have fd := fin_data (E := [.lst [.int 0], .lst [.int 0, .int s.a, .int s.b, .int w]]) (v := .lst [.int (s.a - 0), .int (w - s.b)]) hS rfl
    simp at fd
    simp [d_l_rooms, shV, Sh.v, fL_cons, fL_nil, turnF, n1, n2, n3, wd0, mkG3_4, cL_cons, cL_nil, turn1, capL, roomsF, nL, fd]
  · have fd := fin_data (E := [.lst [.int 0], .lst [.int 0, .int s.a, .int s.b], .lst [.int 0, .int s.a, .int s.b, .int t.a, .int t.b, .int w]]) (v := .lst [.int (s.a - 0), .int (t.a - s.b), .int (w - t.b)]) hS rfl
    simp at fd
    simp [d_l_rooms, shV, Sh.v, fL_cons, fL_nil, turnF, n1, n2, n3, n4, n5, wd0, mkG3_6, cL_cons, cL_nil, turn1, capL, roomsF, nL, fd]
  · simp at hl
end Pw
/-! Mb4: cuts, blocks, ways. -/
namespace Pw
open PySem
variable {d : Nat} {S : PSt}
theorem compL_encF {α : Type} {f : PV → PSt → R (List PV)} {S : PSt} (enc g : α → PV) (p : α → Bool) : ∀ (l : List α), (∀ i ∈ l, f (enc i) S = .ok (if p i = true then [g i] else []) S) → compL f [] (l.map enc) S = .ok ((l.filter p).map g) S
  | [], _ => by rw [List.map_nil, cL_nil]; rfl
  | i :: l, h => by
    rw [List.map_cons, cL_cons, h i List.mem_cons_self, R.bind_ok, compL_encF enc g p l fun j hj => h j (List.mem_cons_of_mem _ hj), List.filter_cons]
    split <;> rfl
theorem compL_encL {α : Type} {f : PV → PSt → R (List PV)} {S : PSt} (enc : α → PV) (h : α → List PV) : ∀ (l : List α), (∀ i ∈ l, f (enc i) S = .ok (h i) S) → compL f [] (l.map enc) S = .ok (l.flatMap h) S
  | [], _ => by rw [List.map_nil, cL_nil]; rfl
  | i :: l, hf => by
    rw [List.map_cons, cL_cons, hf i List.mem_cons_self, R.bind_ok, compL_encL enc h l fun j hj => hf j (List.mem_cons_of_mem _ hj)]
    rfl
theorem flatMap_cg {α β : Type} {f g : α → List β} : ∀ {l : List α}, (∀ x ∈ l, f x = g x) → l.flatMap f = l.flatMap g
  | [], _ => rfl
  | x :: l, h => by
    rw [List.flatMap_cons, List.flatMap_cons, h x List.mem_cons_self, flatMap_cg fun y hy => h y (List.mem_cons_of_mem _ hy)]
/-- all ways of so many numbers up to the most, none less than the one before -/
def cutsF : Nat → Nat → List (List Nat)
  | 1, most => (List.range (most + 1)).map fun c => [c]
  | _, most => (List.range (most + 1)).flatMap fun c => (List.range' c (most + 1 - c)).map fun g => [c, g]
def cV (c : List Nat) : PV := .tup (iL c)
def csV (l : List (List Nat)) : List PV := l.map cV
theorem filter_range : ∀ n, n < 5 → ∀ c, c < n → (List.range n).filter (fun i => decide (c ≤ i)) = List.range' c (n - c) := by decide
theorem cutsF_len : ∀ most, most < 4 → (cutsF 1 most).length ≤ 4 ∧ (cutsF 2 most).length ≤ 10 := by decide
theorem csV_data (l : List (List Nat)) : isDatas (csV l) = true := isDatas_mem.mpr fun x hx => by
  obtain ⟨c, _, rfl⟩ := List.mem_map.mp hx
  exact iL_data c
theorem rng1 : rngL 0 1 = [.int 0] := rfl
theorem rng2 : rngL 0 2 = [.int 0, .int 1] := rfl
theorem atI_m1 (x : PV) : L2.atI [x] (-1) = some x := by simp [L2.atI, L2.ixN]
theorem cuts_one {most : Nat} (hm : most ≤ 3) (u : PV) : compL (turn2 (.nm 4) [4, 5] (evR (run T d) (.rng (.bin .add (.var 1) (.cst (.int 1))))) (.nm 5) [5] (evT (run T d) (.or (.cmp .eq (.var 4) (.tup .nil)) (.cmp .le (.idx (.var 4) (.neg (.cst (.int 1)))) (.var 5)))) (ev (run T d) (.bin .add (.var 4) (.tup (.cons (.var 5) .nil)))) [some u, some (.int (most : Int)), some (.lst [.tup []]), some (.int 0), none, none]) [] [.tup []] S = .ok (csV (cutsF 1 most)) S := by
  have sm : small62 ((most : Int) + 1) = true := small_i (by omega) (by omega)
  have tn : ((most : Int) + 1).toNat = most + 1 := by omega
  have k : 0 + 1 ≤ LIM := by decide
  have hi := compL_enc (S := S) (f := turn1 (.nm 5) [5] (evT (run T d) (.or (.cmp .eq (.var 4) (.tup .nil)) (.cmp .le (.idx (.var 4) (.neg (.cst (.int 1)))) (.var 5)))) (ev (run T d) (.bin .add (.var 4) (.tup (.cons (.var 5) .nil)))) [some u, some (.int (most : Int)), some (.lst [.tup []]), some (.int 0), some (.tup []), none]) (fun (i : Nat) => PV.int (i : Int)) (fun i => cV [i]) (List.range (most + 1)) fun i _ => by
    simp [turn1, eqV_tup_nil, k, cV, iL]
  have hi : compL _ [] (iL (List.range (most + 1))) S = _ := hi
  simp [cL_cons, cL_nil, turn2, sm, tn, rngL_iL, hi, csV, cutsF, Function.comp_def]
theorem cuts_two {most : Nat} (hm : most ≤ 3) (u v : PV) : compL (turn2 (.nm 4) [4, 5] (evR (run T d) (.rng (.bin .add (.var 1) (.cst (.int 1))))) (.nm 5) [5] (evT (run T d) (.or (.cmp .eq (.var 4) (.tup .nil)) (.cmp .le (.idx (.var 4) (.neg (.cst (.int 1)))) (.var 5)))) (ev (run T d) (.bin .add (.var 4) (.tup (.cons (.var 5) .nil)))) [some u, some (.int (most : Int)), some v, some (.int 1), none, none]) [] (csV (cutsF 1 most)) S = .ok (csV (cutsF 2 most)) S := by
  have sm : small62 ((most : Int) + 1) = true := small_i (by omega) (by omega)
  have tn : ((most : Int) + 1).toNat = most + 1 := by omega
  have k : 1 + 1 ≤ LIM := by decide
  have ho := compL_encL (S := S) (f := turn2 (.nm 4) [4, 5] (evR (run T d) (.rng (.bin .add (.var 1) (.cst (.int 1))))) (.nm 5) [5] (evT (run T d) (.or (.cmp .eq (.var 4) (.tup .nil)) (.cmp .le (.idx (.var 4) (.neg (.cst (.int 1)))) (.var 5)))) (ev (run T d) (.bin .add (.var 4) (.tup (.cons (.var 5) .nil)))) [some u, some (.int (most : Int)), some v, some (.int 1), none, none]) (fun c => cV [c]) (fun c => ((List.range (most + 1)).filter fun i => decide (c ≤ i)).map fun g => cV [c, g]) (List.range (most + 1)) fun c _ => by
    have hi := compL_encF (S := S) (f := turn1 (.nm 5) [5] (evT (run T d) (.or (.cmp .eq (.var 4) (.tup .nil)) (.cmp .le (.idx (.var 4) (.neg (.cst (.int 1)))) (.var 5)))) (ev (run T d) (.bin .add (.var 4) (.tup (.cons (.var 5) .nil)))) [some u, some (.int (most : Int)), some v, some (.int 1), some (cV [c]), none]) (fun (i : Nat) => PV.int (i : Int)) (fun i => cV [c, i]) (fun i => decide (c ≤ i)) (List.range (most + 1)) fun i _ => by
      by_cases h : c ≤ i <;> simp [turn1, eqV_tup_nil, k, cV, iL, atI_m1, h]
    have hi : compL _ [] (iL (List.range (most + 1))) S = _ := hi
    simp [turn2, sm, tn, rngL_iL, hi]
  have e : csV (cutsF 1 most) = (List.range (most + 1)).map fun c => cV [c] := by
    show List.map cV ((List.range (most + 1)).map fun c => [c]) = _
    rw [List.map_map]
    rfl
  have e2 : csV (cutsF 2 most) = (List.range (most + 1)).flatMap fun c => ((List.range (most + 1)).filter fun i => decide (c ≤ i)).map fun g => cV [c, g] := by
    show List.map cV ((List.range (most + 1)).flatMap fun c => (List.range' c (most + 1 - c)).map fun g => [c, g]) = _
    rw [List.map_flatMap]
    refine flatMap_cg fun c hc => ?_
    rw [filter_range (most + 1) (by omega) c (List.mem_range.mp hc), List.map_map]
    rfl
  rw [e, ho, e2]
theorem cap_cs (S : PSt) {l : List (List Nat)} (h : l.length ≤ 100) : capL (csV l) S = .ok (csV l) S := by
  unfold capL
  rw [if_pos (lim_n (by unfold csV; rw [List.length_map]; omega))]
theorem r_cuts_of {p most : Nat} (hp : p = 1 ∨ p = 2) (hm : most ≤ 3) : run T (d + 1) .cuts_of [.int (p : Int), .int (most : Int)] S = .ok (.lst (csV (cutsF p most))) S := by
  obtain ⟨l1, l2⟩ := cutsF_len most (by omega)
  have c1 := cap_cs S (l := cutsF 1 most) (by omega)
  have c2 := cap_cs S (l := cutsF 2 most) (by omega)
  have s1 : small62 1 = true := small_i (by decide) (by decide)
  have s2 : small62 2 = true := small_i (by decide) (by decide)
  rw [run_eq d_cuts_of rfl rfl rfl]
  rcases hp with rfl | rfl
  · have e1 := cuts_one (d := d) (S := S) hm (.int 1)
    simp [d_cuts_of, s1, rng1, fL_cons, fL_nil, turnF, e1, c1]
  · have e1 := cuts_one (d := d) (S := S) hm (.int 2)
    have e2 := cuts_two (d := d) (S := S) hm (.int 2) (.lst (csV (cutsF 1 most)))
    simp [d_cuts_of, s2, rng2, fL_cons, fL_nil, turnF, e1, c1, e2, c2]
theorem rl_0_0 : rngL 0 0 = [] := rfl
theorem rl_0_1 : rngL 0 1 = [.int 0] := rfl
theorem rl_0_2 : rngL 0 2 = [.int 0, .int 1] := rfl
theorem rl_0_3 : rngL 0 3 = [.int 0, .int 1, .int 2] := rfl
theorem rl_0_4 : rngL 0 4 = [.int 0, .int 1, .int 2, .int 3] := rfl
theorem rl_1_0 : rngL 1 0 = [] := rfl
theorem rl_1_1 : rngL 1 1 = [.int 1] := rfl
theorem rl_1_2 : rngL 1 2 = [.int 1, .int 2] := rfl
theorem rl_1_3 : rngL 1 3 = [.int 1, .int 2, .int 3] := rfl
theorem rl_2_0 : rngL 2 0 = [] := rfl
theorem rl_2_1 : rngL 2 1 = [.int 2] := rfl
theorem rl_2_2 : rngL 2 2 = [.int 2, .int 3] := rfl
theorem rl_3_0 : rngL 3 0 = [] := rfl
theorem rl_3_1 : rngL 3 1 = [.int 3] := rfl
theorem r_l_cuts {p most : Nat} (hp : p = 1 ∨ p = 2) (hm : most ≤ 3) : run T (d + 1) .l_cuts [.int (p : Int), .int (most : Int)] S = .ok (.lst (csV (cutsF p most))) S := by
  obtain ⟨l1, l2⟩ := cutsF_len most (by omega)
  have c1 := cap_cs S (l := cutsF 1 most) (by omega)
  have sm : small62 ((most : Int) + 1) = true := small_i (by omega) (by omega)
  have tn : ((most : Int) + 1).toNat = most + 1 := by omega
  rw [run_eq d_l_cuts rfl rfl rfl]
  rcases hp with rfl | rfl
  · have hi := compL_enc (S := S) (f := turn1 (.nm 4) [4] (evT (run T d) (.cst (.bl true))) (ev (run T d) (.tup (.cons (.var 4) .nil))) [some (.int 1), some (.int (most : Int)), none, none, none, none]) (fun (i : Nat) => PV.int (i : Int)) (fun i => cV [i]) (List.range (most + 1)) fun i _ => by
      simp [turn1, cV, iL]
    have hi : compL _ [] (iL (List.range (most + 1))) S = _ := hi
    have e : csV (cutsF 1 most) = (List.range (most + 1)).map fun c => cV [c] := by
      show List.map cV ((List.range (most + 1)).map fun c => [c]) = _
      rw [List.map_map]
      rfl
    rw [← e] at hi
    simp [d_l_cuts, eqI, sm, tn, rngL_iL, hi, c1]
  · have k : ∀ n : Nat, n ≤ 100 → n ≤ LIM := fun n h => lim_n (by omega)
    have s0 : ∀ i : Int, 0 ≤ i → i ≤ 4 → small62 i = true := fun i h1 h2 => small_i (by omega) (by omega)
    have q0 := s0 0 (by decide) (by decide)
    have q1 := s0 1 (by decide) (by decide)
    have q2 := s0 2 (by decide) (by decide)
    have q3 := s0 3 (by decide) (by decide)
    have q4 := s0 4 (by decide) (by decide)
    have hm4 : most = 0 ∨ most = 1 ∨ most = 2 ∨ most = 3 := by omega
    rcases hm4 with rfl | rfl | rfl | rfl <;>
    simp [d_l_cuts, eqI, q0, q1, q2, q3, q4, rl_0_0, rl_0_1, rl_0_2, rl_0_3, rl_0_4, rl_1_0, rl_1_1, rl_1_2, rl_1_3, rl_2_0, rl_2_1, rl_2_2, rl_3_0, rl_3_1, fL_cons, fL_nil, turnF, cL_cons, cL_nil, turn1, capL, k, csV, cutsF, cV, iL, List.range_succ, List.range'_succ]
end Pw
/-! Mb5: rows of blocks and of ways. -/
namespace Pw
open PySem
variable {d : Nat} {S : PSt}
def parts (f b k : Nat) : Nat := if k = 0 then f else b
theorem parts_le {w f b k : Nat} (hw : Wd w f b) : 1 ≤ parts f b k ∧ parts f b k ≤ 3 := by
  unfold parts
  have := hw.f1
  have := hw.f2
  have := hw.b1
  have := hw.b2
  split <;> omega
/-- the doors of a rail -/
def railL (f b k : Nat) : List Nat := if k = 0 then List.range' 0 f else List.range' f b
theorem rail_iL (f b k : Nat) : rail f b k = iL (railL f b k) := by
  unfold rail railL
  split <;> rw [drs_iL]
theorem railL_len (f b k : Nat) : (railL f b k).length = parts f b k := by
  unfold railL parts
  split <;> simp
/-- rows of a block: room by room, the doors from here to the cut, it with them -/
def blockRows (m : Nat) (doors : List Nat) : Nat → List Int → List Nat → List Rw
  | here, r :: rs, c :: cs => rowF m (-r) ((doors.drop here).take (c + 1 - here)) [] true :: blockRows m doors c rs cs
  | _, _, _ => []
def wayRows (m : Nat) (doors : List Nat) : Nat → List Int → List Nat → List Rw
  | here, r :: rs, c :: cs => rowF m r [] ((doors.drop here).take (c - here)) false :: wayRows m doors c rs cs
  | _, _, _ => []
def rowsOfBlock (w f b : Nat) (l : List Sh) (k : Nat) (c : List Nat) : List Rw := blockRows (f + b) (railL f b k) 0 (roomsF w 0 l) (c ++ [parts f b k - 1])
def rowsOfWay (w f b : Nat) (l : List Sh) (k : Nat) (c : List Nat) : List Rw := wayRows (f + b) (railL f b k) 0 (roomsF w 0 l) (c ++ [parts f b k])
theorem cutP_iL (l : List Nat) (a b : Nat) : cutP (iL l) (some (a : Int)) (some (b : Int)) = iL ((l.drop a).take (b - a)) := by
  unfold cutP
  have hl : (iL l).length = l.length := by simp [iL]
  rw [HT.sIx_nat, HT.sIx_nat, hl]
  unfold iL
  rw [List.map_take, List.map_drop]
  by_cases h : a ≤ l.length
  · rw [Nat.min_eq_left h]
    by_cases h2 : b ≤ l.length
    · rw [Nat.min_eq_left h2]
    · have h3 : l.length ≤ b := by omega
      rw [Nat.min_eq_right h3, List.take_of_length_le (by simp), List.take_of_length_le (by simp; omega)]
  · have h3 : l.length ≤ a := by omega
    have e1 : (l.map fun (i : Nat) => PV.int (i : Int)).drop (min a l.length) = [] := List.drop_eq_nil_of_le (by rw [List.length_map, Nat.min_eq_right h3]; exact Nat.le_refl _)
    have e2 : (l.map fun (i : Nat) => PV.int (i : Int)).drop a = [] := List.drop_eq_nil_of_le (by rw [List.length_map]; exact h3)
    rw [e1, e2]
    simp
theorem cutP_iL1 (l : List Nat) (a b : Nat) : cutP (iL l) (some (a : Int)) (some ((b : Int) + 1)) = iL ((l.drop a).take (b + 1 - a)) := cutP_iL l a (b + 1)
/-- a loop over rooms and cuts -/
theorem cut_loop {f : PV → Env → PSt → R Fl} {S0 : PSt} (hS : okS S0 = true) (row : Nat → Int → Nat → Rw) (E : Int → Option PV → Option PV → Env)
    (h : ∀ (here : Nat) (u1 u2 : Option PV) (r : Int) (c : Nat) (xs : List PV), xs.length < 10000 → isDatas xs = true → f (.tup [.int r, .int (c : Int)]) (E (here : Int) u1 u2) (S0 ++ [.lst xs]) = .ok (.nx (E (c : Int) (some (.int r)) (some (.int (c : Int))))) (S0 ++ [.lst (xs ++ [(row here r c).v])]))
    (all : Nat → List Int → List Nat → List Rw) (ha : ∀ here r rs c cs, all here (r :: rs) (c :: cs) = row here r c :: all c rs cs) (hn : ∀ here rs, all here rs [] = []) (hn2 : ∀ here cs, all here [] cs = []) :
    ∀ (rs : List Int) (cs : List Nat) (here : Nat) (u1 u2 : Option PV) (xs : List PV), xs.length + rs.length ≤ 10000 → isDatas xs = true → ∃ e v1 v2, forL f [] (zipL (nL rs) (iL cs)) (E (here : Int) u1 u2) (S0 ++ [.lst xs]) = .ok (.nx (E e v1 v2)) (S0 ++ [.lst (xs ++ rV (all here rs cs))])
  | [], cs, here, u1, u2, xs, _, _ => ⟨here, u1, u2, by rw [hn2]; simp [nL, rV, fL_nil]⟩
  | r :: rs, [], here, u1, u2, xs, _, _ => ⟨here, u1, u2, by
      have e : zipL (nL (r :: rs)) (iL []) = [] := by simp [nL, iL, zipL]
      rw [hn, e]; simp [rV, fL_nil]⟩
  | r :: rs, c :: cs, here, u1, u2, xs, hl, hd => by
    obtain ⟨e, v1, v2, q⟩ := cut_loop hS row E h all ha hn hn2 rs cs c (some (.int r)) (some (.int (c : Int))) (xs ++ [(row here r c).v]) (by simp at hl ⊢; omega) (by rw [isDatas_app, hd]; simp [Rw.data])
    refine ⟨e, v1, v2, ?_⟩
    have ez : zipL (nL (r :: rs)) (iL (c :: cs)) = .tup [.int r, .int (c : Int)] :: zipL (nL rs) (iL cs) := by simp [nL, iL]
    rw [ez, fL_cons, h here u1 u2 r c xs (by simp at hl; omega) hd, R.bind_ok, onF_nx, q, ha]
    simp [rV]
theorem nL_src (S : PSt) (l : List Int) : srcL S (.lst (nL l)) = some (nL l, []) := rfl
theorem iL_app (a b : List Nat) : iL (a ++ b) = iL a ++ iL b := by simp [iL]
theorem r_rows_of_block {w f b : Nat} (hw : Wd w f b) (hS : okS S = true) {l : List Sh} (hl : l.length = 1 ∨ l.length = 2) {k : Nat} {c : List Nat} (hc : c.length ≤ 10) : run T (d + 2) .rows_of_block [wd w f b, shV l, .int (k : Int), cV c] S = .ok (.lst (rV (rowsOfBlock w f b l k c))) S := by
  have ed := r_doors_of (d := d) (S := S) (k := k) hw
  rw [rail_iL] at ed
  have er := r_rooms (d := d) (S := S ++ [.lst []]) (w := w) (f := f) (b := b) (okS_last hS rfl) hl
  obtain ⟨p1, p2⟩ := parts_le (k := k) hw
  obtain ⟨e, v1, v2, q⟩ := cut_loop (f := turnF (run T (d + 1)) (.tp [.nm 7, .nm 8]) (.cons (.app (.var 5) (.call .row_of (.cons (.var 0) (.cons (.neg (.var 7)) (.cons (.sl (.var 4) (.var 6) (.bin .add (.var 8) (.cst (.int 1)))) (.cons (.tup .nil) (.cons (.cst (.bl true)) .nil))))))) (.cons (.asg (.nm 6) (.var 8)) .nil))) (S0 := S) hS (fun here r c => rowF (f + b) (-r) (((railL f b k).drop here).take (c + 1 - here)) [] true)
    (fun e v1 v2 => [some (wd w f b), some (shV l), some (.int (k : Int)), some (cV c), some (.lst (iL (railL f b k))), some (.ref S.length), some (.int e), v1, v2])
    (fun here u1 u2 r c xs hx hd => by
      have e := r_row_of (d := d) (S := S ++ [.lst xs]) hw (c := -r) (s := true) (isL_l (((railL f b k).drop here).take (c + 1 - here))) isL_t0 (okS_last hS hd)
      have l1 : xs.length < LIM := by have : LIM = 16777216 := rfl; omega
      simp [turnF, cutP_iL1, e, l1]) (blockRows (f + b) (railL f b k)) (fun _ _ _ _ _ => rfl) (fun here rs => by cases rs <;> rfl) (fun here cs => by cases cs <;> rfl) (roomsF w 0 l) (c ++ [parts f b k - 1]) 0 none none [] (by rw [roomsF_len]; simp; omega) rfl
  have ez : ((parts f b k : Nat) : Int) - 1 = ((parts f b k - 1 : Nat) : Int) := by omega
  have el : (iL (railL f b k)).length = parts f b k := by rw [← railL_len]; simp [iL]
  have lc : (iL c).length + 1 ≤ LIM := lim_n (by simp [iL]; omega)
  have ic : iL (c ++ [parts f b k - 1]) = iL c ++ [.int ((parts f b k - 1 : Nat) : Int)] := by rw [iL_app]; rfl
  rw [ic] at q
  have q : forL _ [] _ [some (wd w f b), some (shV l), some (.int (k : Int)), some (cV c), some (.lst (iL (railL f b k))), some (.ref S.length), some (.int 0), none, none] _ = _ := q
  have fd := fin_new (S := S) (xs := rV (rowsOfBlock w f b l k c)) hS (okVs_data (rV_data _))
  rw [run_eq d_rows_of_block rfl rfl rfl]
  unfold cV at q ⊢
  simp [d_rows_of_block, ed, er, el, ez, lc, nL_src, q]
  exact fd

theorem r_rows_of_way {w f b : Nat} (hw : Wd w f b) (hS : okS S = true) {l : List Sh} (hl : l.length = 1 ∨ l.length = 2) {k : Nat} {c : List Nat} (hc : c.length ≤ 10) : run T (d + 2) .rows_of_way [wd w f b, shV l, .int (k : Int), cV c] S = .ok (.lst (rV (rowsOfWay w f b l k c))) S := by
  have ed := r_doors_of (d := d) (S := S) (k := k) hw
  rw [rail_iL] at ed
  have er := r_rooms (d := d) (S := S ++ [.lst []]) (w := w) (f := f) (b := b) (okS_last hS rfl) hl
  obtain ⟨p1, p2⟩ := parts_le (k := k) hw
  obtain ⟨e, v1, v2, q⟩ := cut_loop (f := turnF (run T (d + 1)) (.tp [.nm 7, .nm 8]) (.cons (.app (.var 5) (.call .row_of (.cons (.var 0) (.cons (.var 7) (.cons (.tup .nil) (.cons (.sl (.var 4) (.var 6) (.var 8)) (.cons (.cst (.bl false)) .nil))))))) (.cons (.asg (.nm 6) (.var 8)) .nil))) (S0 := S) hS (fun here r c => rowF (f + b) r [] (((railL f b k).drop here).take (c - here)) false)
    (fun e v1 v2 => [some (wd w f b), some (shV l), some (.int (k : Int)), some (cV c), some (.lst (iL (railL f b k))), some (.ref S.length), some (.int e), v1, v2])
    (fun here u1 u2 r c xs hx hd => by
      have e := r_row_of (d := d) (S := S ++ [.lst xs]) hw (c := r) (s := false) isL_t0 (isL_l (((railL f b k).drop here).take (c - here))) (okS_last hS hd)
      have l1 : xs.length < LIM := by have : LIM = 16777216 := rfl; omega
      simp [turnF, cutP_iL, e, l1]) (wayRows (f + b) (railL f b k)) (fun _ _ _ _ _ => rfl) (fun here rs => by cases rs <;> rfl) (fun here cs => by cases cs <;> rfl) (roomsF w 0 l) (c ++ [parts f b k]) 0 none none [] (by rw [roomsF_len]; simp; omega) rfl
  have el : (iL (railL f b k)).length = parts f b k := by rw [← railL_len]; simp [iL]
  have lc : (iL c).length + 1 ≤ LIM := lim_n (by simp [iL]; omega)
  have ic : iL (c ++ [parts f b k]) = iL c ++ [.int ((parts f b k : Nat) : Int)] := by rw [iL_app]; rfl
  rw [ic] at q
  have q : forL _ [] _ [some (wd w f b), some (shV l), some (.int (k : Int)), some (cV c), some (.lst (iL (railL f b k))), some (.ref S.length), some (.int 0), none, none] _ = _ := q
  have fd := fin_new (S := S) (xs := rV (rowsOfWay w f b l k c)) hS (okVs_data (rV_data _))
  rw [run_eq d_rows_of_way rfl rfl rfl]
  unfold cV at q ⊢
  simp [d_rows_of_way, ed, er, el, lc, nL_src, q]
  exact fd
theorem wayRows_end {m : Nat} {doors : List Nat} {x y : Nat} (hx : doors.length ≤ x) (hy : doors.length ≤ y) : ∀ (rs : List Int) (c : List Nat) (here : Nat), wayRows m doors here rs (c ++ [x]) = wayRows m doors here rs (c ++ [y])
  | [], c, here => by cases c <;> rfl
  | r :: rs, [], here => by
    have e : (doors.drop here).take (x - here) = (doors.drop here).take (y - here) := by
      rw [List.take_of_length_le (by simp; omega), List.take_of_length_le (by simp; omega)]
    show rowF m r [] _ false :: wayRows m doors x rs [] = rowF m r [] _ false :: wayRows m doors y rs []
    rw [e]
    cases rs <;> rfl
  | r :: rs, a :: c, here => by
    show rowF m r [] _ false :: wayRows m doors a rs (c ++ [x]) = rowF m r [] _ false :: wayRows m doors a rs (c ++ [y])
    rw [wayRows_end hx hy rs c a]
theorem blockRows_end {m : Nat} {doors : List Nat} {x y : Nat} (hx : doors.length ≤ x + 1) (hy : doors.length ≤ y + 1) : ∀ (rs : List Int) (c : List Nat) (here : Nat), blockRows m doors here rs (c ++ [x]) = blockRows m doors here rs (c ++ [y])
  | [], c, here => by cases c <;> rfl
  | r :: rs, [], here => by
    have e : (doors.drop here).take (x + 1 - here) = (doors.drop here).take (y + 1 - here) := by
      rw [List.take_of_length_le (by simp; omega), List.take_of_length_le (by simp; omega)]
    show rowF m (-r) _ [] true :: blockRows m doors x rs [] = rowF m (-r) _ [] true :: blockRows m doors y rs []
    rw [e]
    cases rs <;> rfl
  | r :: rs, a :: c, here => by
    show rowF m (-r) _ [] true :: blockRows m doors a rs (c ++ [x]) = rowF m (-r) _ [] true :: blockRows m doors a rs (c ++ [y])
    rw [blockRows_end hx hy rs c a]
theorem rails_at {f b k : Nat} (hk : k = 0 ∨ k = 1) : L2.atI [PV.lst (drs 0 f), .lst (drs f b)] (k : Int) = some (.lst (iL (railL f b k))) := by
  rcases hk with rfl | rfl
  · rw [show ((0 : Nat) : Int) = 0 from rfl, atI_0, drs_iL]; rfl
  · rw [show ((1 : Nat) : Int) = 1 from rfl, atI_1, drs_iL f b]; rfl
theorem r_l_way_lines {w f b : Nat} (hw : Wd w f b) (hS : okS S = true) {l : List Sh} (hl : l.length = 1 ∨ l.length = 2) {k : Nat} (hk : k = 0 ∨ k = 1) {c : List Nat} (hc : c.length ≤ 10) : run T (d + 2) .l_way_lines [wd w f b, shV l, .int (k : Int), cV c] S = .ok (.lst (rV (rowsOfWay w f b l k c))) S := by
  have ed := r_rails (d := d) (S := S) hw
  have ra := rails_at (f := f) (b := b) hk
  have er := r_l_rooms (d := d) (S := S ++ [.lst []]) (w := w) (f := f) (b := b) (okS_last hS rfl) hl
  obtain ⟨p1, p2⟩ := parts_le (k := k) hw
  obtain ⟨e, v1, v2, q⟩ := cut_loop (f := turnF (run T (d + 1)) (.tp [.nm 7, .nm 8]) (.cons (.app (.var 5) (.call .l_line (.cons (.var 0) (.cons (.var 7) (.cons (.fl (.disp .nil)) (.cons (.sl (.var 4) (.var 6) (.var 8)) (.cons (.cst (.bl false)) .nil))))))) (.cons (.asg (.nm 6) (.var 8)) .nil))) (S0 := S) hS (fun here r c => rowF (f + b) r [] (((railL f b k).drop here).take (c - here)) false)
    (fun e v1 v2 => [some (wd w f b), some (shV l), some (.int (k : Int)), some (cV c), some (.lst (iL (railL f b k))), some (.ref S.length), some (.int e), v1, v2])
    (fun here u1 u2 r c xs hx hd => by
      have e := r_l_line (d := d) (S := S ++ [.lst xs]) hw (c := r) (s := false) isL_l0 (isL_l (((railL f b k).drop here).take (c - here))) (okS_last hS hd)
      have l1 : xs.length < LIM := by have : LIM = 16777216 := rfl; omega
      simp [turnF, cutP_iL, e, l1]) (wayRows (f + b) (railL f b k)) (fun _ _ _ _ _ => rfl) (fun here rs => by cases rs <;> rfl) (fun here cs => by cases cs <;> rfl) (roomsF w 0 l) (c ++ [9]) 0 none none [] (by rw [roomsF_len]; simp; omega) rfl
  have lc : (iL c).length + 1 ≤ LIM := lim_n (by simp [iL]; omega)
  have ic : iL (c ++ [9]) = iL c ++ [.int 9] := by rw [iL_app]; rfl
  have hrl := railL_len f b k
  rw [ic, wayRows_end (y := parts f b k) (by omega) (by omega)] at q
  have q : forL _ [] _ [some (wd w f b), some (shV l), some (.int (k : Int)), some (cV c), some (.lst (iL (railL f b k))), some (.ref S.length), some (.int 0), none, none] _ = _ := q
  have fd := fin_new (S := S) (xs := rV (rowsOfWay w f b l k c)) hS (okVs_data (rV_data _))
  rw [run_eq d_l_way_lines rfl rfl rfl]
  unfold cV at q ⊢
  simp [d_l_way_lines, ed, ra, er, lc, nL_src, q]
  exact fd
theorem r_l_block_lines {w f b : Nat} (hw : Wd w f b) (hS : okS S = true) {l : List Sh} (hl : l.length = 1 ∨ l.length = 2) {k : Nat} (hk : k = 0 ∨ k = 1) {c : List Nat} (hc : c.length ≤ 10) : run T (d + 2) .l_block_lines [wd w f b, shV l, .int (k : Int), cV c] S = .ok (.lst (rV (rowsOfBlock w f b l k c))) S := by
  have ed := r_rails (d := d) (S := S) hw
  have ra := rails_at (f := f) (b := b) hk
  have er := r_l_rooms (d := d) (S := S ++ [.lst []]) (w := w) (f := f) (b := b) (okS_last hS rfl) hl
  obtain ⟨p1, p2⟩ := parts_le (k := k) hw
  obtain ⟨e, v1, v2, q⟩ := cut_loop (f := turnF (run T (d + 1)) (.tp [.nm 7, .nm 8]) (.cons (.app (.var 5) (.call .l_line (.cons (.var 0) (.cons (.neg (.var 7)) (.cons (.sl (.var 4) (.var 6) (.bin .add (.var 8) (.cst (.int 1)))) (.cons (.fl (.disp .nil)) (.cons (.cst (.bl true)) .nil))))))) (.cons (.asg (.nm 6) (.var 8)) .nil))) (S0 := S) hS (fun here r c => rowF (f + b) (-r) (((railL f b k).drop here).take (c + 1 - here)) [] true)
    (fun e v1 v2 => [some (wd w f b), some (shV l), some (.int (k : Int)), some (cV c), some (.lst (iL (railL f b k))), some (.ref S.length), some (.int e), v1, v2])
    (fun here u1 u2 r c xs hx hd => by
      have e := r_l_line (d := d) (S := S ++ [.lst xs]) hw (c := -r) (s := true) (isL_l (((railL f b k).drop here).take (c + 1 - here))) isL_l0 (okS_last hS hd)
      have l1 : xs.length < LIM := by have : LIM = 16777216 := rfl; omega
      simp [turnF, cutP_iL1, e, l1]) (blockRows (f + b) (railL f b k)) (fun _ _ _ _ _ => rfl) (fun here rs => by cases rs <;> rfl) (fun here cs => by cases cs <;> rfl) (roomsF w 0 l) (c ++ [9]) 0 none none [] (by rw [roomsF_len]; simp; omega) rfl
  have lc : (iL c).length + 1 ≤ LIM := lim_n (by simp [iL]; omega)
  have ic : iL (c ++ [9]) = iL c ++ [.int 9] := by rw [iL_app]; rfl
  have hrl := railL_len f b k
  rw [ic, blockRows_end (y := parts f b k - 1) (by omega) (by omega)] at q
  have q : forL _ [] _ [some (wd w f b), some (shV l), some (.int (k : Int)), some (cV c), some (.lst (iL (railL f b k))), some (.ref S.length), some (.int 0), none, none] _ = _ := q
  have fd := fin_new (S := S) (xs := rV (rowsOfBlock w f b l k c)) hS (okVs_data (rV_data _))
  rw [run_eq d_l_block_lines rfl rfl rfl]
  unfold cV at q ⊢
  simp [d_l_block_lines, ed, ra, er, lc, nL_src, q]
  exact fd
/-! ### all blocks, all ways -/
def allBlocks (f b p : Nat) : List (Nat × List Nat) := (cutsF p (f - 1)).map (fun c => (0, c)) ++ (cutsF p (b - 1)).map (fun c => (1, c))
def bV (x : Nat × List Nat) : PV := .tup [.int (x.1 : Int), cV x.2]
def allWays (f b p : Nat) : List (List Nat × List Nat) := (cutsF p f).flatMap fun x => (cutsF p b).map fun y => (x, y)
def wV (x : List Nat × List Nat) : PV := .tup [cV x.1, cV x.2]
theorem shV_len (l : List Sh) (S : PSt) : bltV S .len [shV l] = some (.int (l.length : Int)) := by simp [shV]
theorem r_all_blocks {w f b : Nat} (hw : Wd w f b) {l : List Sh} (hl : l.length = 1 ∨ l.length = 2) : run T (d + 2) .all_blocks [wd w f b, shV l] S = .ok (.lst ((allBlocks f b l.length).map bV)) S := by
  obtain ⟨f1, f2⟩ := parts_le (k := 0) hw
  obtain ⟨b1, b2⟩ := parts_le (k := 1) hw
  simp only [parts, if_pos, if_neg (show ¬ (1 = 0) by decide)] at f1 f2 b1 b2
  have e0 := r_cuts_of (d := d) (S := S) hl (most := f - 1) (by omega)
  have e1 := r_cuts_of (d := d) (S := S) hl (most := b - 1) (by omega)
  have z0 : ((f : Int) - 1) = ((f - 1 : Nat) : Int) := by omega
  have z1 : ((b : Int) - 1) = ((b - 1 : Nat) : Int) := by omega
  have cc : ∀ (k : Nat) (u : PV) (v : Option PV) (L : List (List Nat)), compL (turn1 (.nm 4) [4] (evT (run T (d + 1)) (.cst (.bl true))) (ev (run T (d + 1)) (.tup (.cons (.var 3) (.cons (.var 4) .nil)))) [some (wd w f b), some (shV l), some u, some (.int (k : Int)), v]) [] (csV L) S = .ok (L.map fun c => bV (k, c)) S := fun k u v L => compL_enc cV (fun c => bV (k, c)) L fun c _ => by simp [turn1, bV]
  have c0 := fun u v L => cc 0 u v L
  have c1 := fun u v L => cc 1 u v L
  have n0 : (cutsF l.length (f - 1)).length ≤ 10 := by
    obtain ⟨l1, l2⟩ := cutsF_len (f - 1) (by omega)
    rcases hl with z | z <;> rw [z] <;> omega
  have n1 : (cutsF l.length (b - 1)).length ≤ 10 := by
    obtain ⟨l1, l2⟩ := cutsF_len (b - 1) (by omega)
    rcases hl with z | z <;> rw [z] <;> omega
  have k0 : (cutsF l.length (f - 1)).length ≤ LIM := lim_n (by omega)
  have k1 : (cutsF l.length (b - 1)).length ≤ LIM := lim_n (by omega)
  have k2 : (cutsF l.length (f - 1)).length + (cutsF l.length (b - 1)).length ≤ LIM := lim_n (by omega)
  rw [run_eq d_all_blocks rfl rfl rfl]
  have c0 : ∀ (u : PV) (v : Option PV) (L : List (List Nat)), compL _ [] (csV L) S = _ := c0
  simp only [Int.natCast_zero] at c0
  have c1 : ∀ (u : PV) (v : Option PV) (L : List (List Nat)), compL (turn1 (.nm 4) [4] (evT (run T (d + 1)) (.cst (.bl true))) (ev (run T (d + 1)) (.tup (.cons (.var 3) (.cons (.var 4) .nil)))) [some (wd w f b), some (shV l), some u, some (.int 1), v]) [] (csV L) S = .ok (L.map fun c => bV (1, c)) S := c1
  have hcap : ∀ k : Nat, ∀ L : List (List Nat), L.length ≤ 10 → capL (L.map fun c => bV (k, c)) S = .ok (L.map fun c => bV (k, c)) S := fun k L h => by
    unfold capL
    rw [if_pos (lim_n (by rw [List.length_map]; omega))]
  have h0 := hcap 0 _ n0
  have h1 := hcap 1 _ n1
  have sr : ∀ L : List (List Nat), srcL S (.lst (csV L)) = some (csV L, []) := fun L => rfl
  simp [d_all_blocks, fL_cons, fL_nil, turnF, wd1, wd2, z0, z1, shV_len, e0, e1, sr, c0, c1, h0, h1, k0, k2, allBlocks, Function.comp_def]
theorem cutsF_le {p k : Nat} (hp : p = 1 ∨ p = 2) (hk : k ≤ 3) : (cutsF p k).length ≤ 10 := by
  obtain ⟨l1, l2⟩ := cutsF_len k (by omega)
  rcases hp with z | z <;> rw [z] <;> omega
theorem r_all_ways {w f b : Nat} (hw : Wd w f b) {l : List Sh} (hl : l.length = 1 ∨ l.length = 2) : run T (d + 2) .all_ways [wd w f b, shV l] S = .ok (.lst ((allWays f b l.length).map wV)) S := by
  have e0 := r_cuts_of (d := d) (S := S) hl (most := f) hw.f2
  have e1 := r_cuts_of (d := d) (S := S) hl (most := b) hw.b2
  have n0 := cutsF_le hl hw.f2
  have n1 := cutsF_le hl hw.b2
  have hi : ∀ (x : List Nat) (u v : PV), compL (turn1 (.nm 5) [5] (evT (run T (d + 1)) (.cst (.bl true))) (ev (run T (d + 1)) (.tup (.cons (.var 4) (.cons (.var 5) .nil)))) [some (wd w f b), some (shV l), some u, some v, some (cV x), none]) [] (csV (cutsF l.length b)) S = .ok ((cutsF l.length b).map fun y => wV (x, y)) S := fun x u v => compL_enc cV (fun y => wV (x, y)) _ fun y _ => by simp [turn1, wV]
  have sr : ∀ L : List (List Nat), srcL S (.lst (csV L)) = some (csV L, []) := fun L => rfl
  have ho := compL_encL (S := S) (f := turn2 (.nm 4) [4, 5] (evR (run T (d + 1)) (.val (.var 3))) (.nm 5) [5] (evT (run T (d + 1)) (.cst (.bl true))) (ev (run T (d + 1)) (.tup (.cons (.var 4) (.cons (.var 5) .nil)))) [some (wd w f b), some (shV l), some (.lst (csV (cutsF l.length f))), some (.lst (csV (cutsF l.length b))), none, none]) cV (fun x => (cutsF l.length b).map fun y => wV (x, y)) (cutsF l.length f) fun x _ => by
    simp [turn2, sr, hi]
  have ho : compL _ [] (csV (cutsF l.length f)) S = _ := ho
  have e : (allWays f b l.length).map wV = (cutsF l.length f).flatMap fun x => (cutsF l.length b).map fun y => wV (x, y) := by
    unfold allWays
    rw [List.map_flatMap]
    exact flatMap_cg fun x _ => by rw [List.map_map]; rfl
  have hc : capL ((cutsF l.length f).flatMap fun x => (cutsF l.length b).map fun y => wV (x, y)) S = .ok ((cutsF l.length f).flatMap fun x => (cutsF l.length b).map fun y => wV (x, y)) S := by
    unfold capL
    rw [if_pos (lim_n ?_)]
    have : ∀ L : List (List Nat), (L.flatMap fun x => (cutsF l.length b).map fun y => wV (x, y)).length = L.length * (cutsF l.length b).length := fun L => by
      induction L with
      | nil => simp
      | cons x L ih =>
        rw [List.flatMap_cons, List.length_append, ih, List.length_map, List.length_cons, Nat.add_mul]
        omega
    rw [this]
    have := Nat.mul_le_mul n0 n1
    omega
  rw [run_eq d_all_ways rfl rfl rfl, e]
  simp [d_all_ways, wd1, wd2, shV_len, e0, e1, sr, ho, hc]
end Pw
/-! Mc1: facts and shelves recognized. -/
namespace Pw
open PySem
variable {d : Nat} {S : PSt}
/-- the ints of a list -/
def toI : List PV → List Int
  | [] => []
  | .int i :: r => i :: toI r
  | _ :: r => toI r
def ascI (zs : List Int) : Bool := (List.range' 1 (zs.length - 1)).all fun i => decide (zs.getD (i - 1) 0 < zs.getD i 0)
def isLot (many : Int) : PV → Bool
  | .tup xs => !xs.isEmpty && xs.all (fun x => isWhole x 0 (many - 1)) && ascI (toI xs)
  | _ => false
theorem isLot_tup (many : Int) (xs : List PV) : isLot many (.tup xs) = (!xs.isEmpty && xs.all (fun x => isWhole x 0 (many - 1)) && ascI (toI xs)) := rfl
theorem ints_of {many : Int} : ∀ {xs : List PV}, xs.all (fun x => isWhole x 0 many) = true → xs = (toI xs).map PV.int
  | [], _ => rfl
  | x :: xs, h => by
    rw [List.all_cons, Bool.and_eq_true] at h
    obtain ⟨i, rfl, _⟩ := isWhole_iff h.1
    show _ = PV.int i :: (toI xs).map PV.int
    rw [← ints_of h.2]
theorem capL_le {vs : List PV} {S : PSt} (h : vs.length ≤ 1000000) : capL vs S = .ok vs S := by
  unfold capL
  rw [if_pos (lim_n h)]
theorem r_is_lot {many : Nat} (hm : many ≤ 100) {v : PV} {N : Nat} (hN : N ≤ 2000) (hv : nice N v = true) : run T (d + 2) .is_lot [.int (many : Int), v] S = .ok (.bl (isLot many v)) S := by
  rw [run_eq d_is_lot rfl rfl rfl]
  have hdat := nice_data hv
  cases v with
  | tup xs =>
    simp only [nice_tup, Bool.and_eq_true, decide_eq_true_eq] at hv
    have hx : isDatas xs = true := hdat
    by_cases hne : xs = []
    · subst hne
      simp [d_is_lot, eqV_tup_nil, isLot]
    · have hem : xs.isEmpty = false := by simpa using hne
      have hf : compL (turn1 (.nm 2) [2] (evT (run T (d + 1)) (.not (.call .is_whole (.cons (.var 2) (.cons (.cst (.int 0)) (.cons (.bin .sub (.var 0) (.cst (.int 1))) .nil)))))) (ev (run T (d + 1)) (.var 2)) [some (.int (many : Int)), some (.tup xs), none, none]) [] xs S = .ok (xs.filter fun x => !isWhole x 0 (many - 1)) S := compL_filter fun x hx' => by
        have hx' := isDatas_mem.mp hx x hx'
        simp [turn1, hx']
        cases isWhole x 0 ((many : Int) - 1) <;> simp
      have hc := capL_le (S := S) (vs := xs.filter fun x => !isWhole x 0 (many - 1)) (by have := List.length_filter_le (fun x => !isWhole x 0 ((many : Int) - 1)) xs; omega)
      have hq := eqV_lst_nil S (isDatas_filter (p := fun x => !isWhole x 0 ((many : Int) - 1)) hx)
      rw [filter_empty] at hq
      cases ha : xs.all (fun x => isWhole x 0 ((many : Int) - 1)) with
      | false =>
        rw [ha] at hq
        simp [d_is_lot, eqV_tup_nil S hx, hem, hne, hf, hc, hq, isLot, ha]
      | true =>
        rw [ha] at hq
        have hi := ints_of ha
        generalize hz : toI xs = zs at hi
        have hl : xs.length = zs.length := by rw [hi]; simp
        have hpos : 1 ≤ zs.length := by
          have := List.length_pos_iff.mpr hne
          omega
        have s1 : small62 1 = true := small_i (by decide) (by decide)
        have s2 : small62 (xs.length : Int) = true := small_i (by omega) (by omega)
        have tn : ((xs.length : Int) - 1).toNat = zs.length - 1 := by omega
        have er : rngL 1 (zs.length - 1) = iL (List.range' 1 (zs.length - 1)) := by
          rw [show (1 : Int) = ((1 : Nat) : Int) from rfl, rngL_drs, drs_iL]
        have h2 : compL (turn1 (.nm 3) [3] (evT (run T (d + 1)) (.cmp .le (.idx (.var 1) (.var 3)) (.idx (.var 1) (.bin .sub (.var 3) (.cst (.int 1)))))) (ev (run T (d + 1)) (.var 3)) [some (.int (many : Int)), some (.tup xs), none, none]) [] (iL (List.range' 1 (zs.length - 1))) S = .ok (iL ((List.range' 1 (zs.length - 1)).filter fun i => !decide (zs.getD (i - 1) 0 < zs.getD i 0))) S := compL_iL fun i hi' => by
          rw [List.mem_range'_1] at hi'
          have e1 : ((i : Int) - 1) = ((i - 1 : Nat) : Int) := by omega
          have g1 : xs[i]? = some (.int (zs.getD i 0)) := by
            have : i < zs.length := by omega
            rw [hi]
            simp [List.getD, this]
          have g2 : xs[i - 1]? = some (.int (zs.getD (i - 1) 0)) := by
            have : i - 1 < zs.length := by omega
            rw [hi]
            simp [List.getD, this]
          have a1 := atI_nat xs i
          have a2 := atI_nat xs (i - 1)
          rw [g1] at a1
          rw [g2] at a2
          generalize zs.getD i 0 = A at *
          generalize zs.getD (i - 1) 0 = B at *
          by_cases hd : A ≤ B
          · have hd2 : ¬ B < A := by omega
            simp [turn1, e1, a1, a2, hd, hd2]
          · have hd2 : B < A := by omega
            simp [turn1, e1, a1, a2, hd, hd2]
        have hc2 := capL_le (S := S) (vs := iL ((List.range' 1 (zs.length - 1)).filter fun i => !decide (zs.getD (i - 1) 0 < zs.getD i 0))) (by
          have := List.length_filter_le (fun i => !decide (zs.getD (i - 1) 0 < zs.getD i 0)) (List.range' 1 (zs.length - 1))
          unfold iL
          rw [List.length_map]
          rw [List.length_range'] at this
          omega)
        have hq2 : eqV S (.lst (iL ((List.range' 1 (zs.length - 1)).filter fun i => !decide (zs.getD (i - 1) 0 < zs.getD i 0)))) (.lst []) = some (ascI zs) := by
          rw [eqV_lst_nil S (iL_data _)]
          have : (iL ((List.range' 1 (zs.length - 1)).filter fun i => !decide (zs.getD (i - 1) 0 < zs.getD i 0))).isEmpty = ((List.range' 1 (zs.length - 1)).filter fun i => !decide (zs.getD (i - 1) 0 < zs.getD i 0)).isEmpty := by simp [iL]
          rw [this, filter_empty]
          rfl
        generalize (List.range' 1 (zs.length - 1)).filter (fun i => !decide (zs.getD (i - 1) 0 < zs.getD i 0)) = L at *
        rw [isLot_tup, hz, hem, ha]
        simp [d_is_lot, eqV_tup_nil S hx, hem, hne, hf, hc, hq, s1, s2, tn, er, h2, hc2, hq2]
  | ref n => cases hv
  | fn f => cases hv
  | cls c => cases hv
  | exn c vs => cases hv
  | scr ns => cases hv
  | _ => simp [d_is_lot, isLot]

def isFact (many : Int) : PV → Bool
  | .tup [.str s, a, b] => decide (s = "wider") && (isLot many a && (isLot many b && !pyEq a b))
  | .tup [.str s, a, b, c] => decide (s = "sum") && (isLot many a && (isWhole b 0 1000000 && (isNon c || (match b with
    | .int lo => isWhole c lo 1000000
    | _ => false))))
  | _ => false
theorem isFact_3 (many : Int) (s : PySem.Str) (a b : PV) : isFact many (.tup [.str s, a, b]) = (decide (s = "wider") && (isLot many a && (isLot many b && !pyEq a b))) := rfl
theorem isFact_4 (many : Int) (s : PySem.Str) (a b c : PV) : isFact many (.tup [.str s, a, b, c]) = (decide (s = "sum") && (isLot many a && (isWhole b 0 1000000 && (isNon c || (match b with
    | .int lo => isWhole c lo 1000000
    | _ => false))))) := rfl
theorem isFact_other (many : Int) {x : PV} {xs : List PV} (h : xs.length ≠ 2 ∧ xs.length ≠ 3) : isFact many (.tup (x :: xs)) = false := by
  rcases xs with _ | ⟨a, _ | ⟨b, _ | ⟨c, _ | ⟨e, r⟩⟩⟩⟩
  · cases x <;> rfl
  · cases x <;> rfl
  · simp at h
  · simp at h
  · cases x <;> rfl
theorem eqV_data (S : PSt) {a b : PV} (ha : isData a = true) (hb : isData b = true) (hd : depth a ≤ 60) : eqV S a b = some (pyEq a b) := by
  have ta : top1 S a = a := by cases a <;> first | rfl | cases ha
  have tb : top1 S b = b := by cases b <;> first | rfl | cases hb
  unfold eqV
  rw [ta, tb]
  simp [ha, hb]
  omega
theorem sum_ne : (("wider" : PySem.Str) = "sum") = False := by decide +kernel
theorem len4 {xs : List PV} : xs.length = 3 → ∃ a b c, xs = [a, b, c] := len3
theorem r_is_fact {many : Nat} (hm : many ≤ 100) {v : PV} {N : Nat} (hN : N ≤ 2000) (hv : nice N v = true) (hd : depth v ≤ 60) : run T (d + 3) .is_fact [.int (many : Int), v] S = .ok (.bl (isFact many v)) S := by
  rw [run_eq d_is_fact rfl rfl rfl]
  have hdat := nice_data hv
  cases v with
  | tup xs =>
    rcases xs with _ | ⟨x, xs⟩
    · simp [d_is_fact, eqV_tup_nil, isFact]
    · have hns : nices N (x :: xs) = true := by
        simp only [nice_tup, Bool.and_eq_true] at hv
        exact hv.2
      have hx : isDatas (x :: xs) = true := hdat
      have hdx : ∀ y ∈ x :: xs, depth y ≤ 59 := by
        have : depths (x :: xs) ≤ 59 := by
          rw [depth_tup] at hd
          omega
        exact depths_le.mp this
      have e0 := eqV_tup_nil S hx
      have hcons : (x :: xs).isEmpty = false := rfl
      rw [hcons] at e0
      cases x with
      | str s =>
        by_cases h2 : xs.length = 2
        · obtain ⟨a, b, rfl⟩ := len2 h2
          have na : nice N a = true := nices_mem.mp hns a (by simp)
          have nb : nice N b = true := nices_mem.mp hns b (by simp)
          have la := r_is_lot (d := d) (S := S) hm hN na
          have lb := r_is_lot (d := d) (S := S) hm hN nb
          have ee := eqV_data S (nice_data na) (nice_data nb) (by have := hdx a (by simp); omega)
          rw [isFact_3]
          by_cases h : s = "wider"
          · subst h
            simp [d_is_fact, e0, eqS, eqI, la, lb, ee]
            cases isLot many a <;> cases isLot many b <;> simp
          · simp [d_is_fact, e0, eqS, h, eqI]
        · by_cases h3 : xs.length = 3
          · obtain ⟨a, b, c, rfl⟩ := len3 h3
            have na : nice N a = true := nices_mem.mp hns a (by simp)
            have nb : nice N b = true := nices_mem.mp hns b (by simp)
            have nc : nice N c = true := nices_mem.mp hns c (by simp)
            have la := r_is_lot (d := d) (S := S) hm hN na
            have db := nice_data nb
            have dc := nice_data nc
            rw [isFact_4]
            by_cases h : s = "sum"
            · subst h
              cases hla : isLot many a with
              | false => simp [d_is_fact, e0, eqS, eqI, la, hla]
              | true =>
                cases hlb : isWhole b 0 1000000 with
                | false => simp [d_is_fact, e0, eqS, eqI, la, hla, db, hlb]
                | true =>
                  obtain ⟨lo, rfl, _⟩ := isWhole_iff hlb
                  simp [d_is_fact, e0, eqS, eqI, la, hla, hlb, dc]
                  cases isNon c <;> simp
            · simp [d_is_fact, e0, eqS, h, eqI]
          · rw [isFact_other _ ⟨h2, h3⟩]
            have e3 : ((xs.length : Int) + 1 = 3) = False := by simp; omega
            have e4 : ((xs.length : Int) + 1 = 4) = False := by simp; omega
            by_cases h : s = "wider"
            · subst h
              simp [d_is_fact, e0, eqS, eqI, e3, sum_ne]
            · by_cases h' : s = "sum"
              · subst h'
                simp [d_is_fact, e0, eqS, wider_ne, eqI, e4]
              · simp [d_is_fact, e0, eqS, h, eqI, e4, h']
      | ref _ => simp at hx
      | fn _ => simp at hx
      | cls _ => simp at hx
      | exn _ _ => simp at hx
      | scr _ => simp at hx
      | _ =>
        have : ∀ y, (∀ s, y ≠ PV.str s) → isFact (many : Int) (.tup (y :: xs)) = false := fun y hy => by
          rcases xs with _ | ⟨a, _ | ⟨b, _ | ⟨c, _ | ⟨e, r⟩⟩⟩⟩ <;> cases y <;> first | rfl | exact absurd rfl (hy _)
        rw [this _ (fun s z => by cases z)]
        simp [d_is_fact, e0]
  | ref n => cases hv
  | fn f => cases hv
  | cls c => cases hv
  | exn c vs => cases hv
  | scr ns => cases hv
  | _ => simp [d_is_fact, isFact]
def hasF (many : Int) : PV → Bool
  | .tup xs => decide (xs.length ≤ 6) && xs.all (isFact many)
  | _ => false
theorem hasF_tup (many : Int) (xs : List PV) : hasF many (.tup xs) = (decide (xs.length ≤ 6) && xs.all (isFact many)) := rfl
theorem r_has_facts {w f b : Nat} (hw : Wd w f b) {v : PV} {N : Nat} (hN : N ≤ 2000) (hv : nice N v = true) (hd : depth v ≤ 60) : run T (d + 4) .has_facts [wd w f b, v] S = .ok (.bl (hasF ((f + b : Nat) : Int) v)) S := by
  rw [run_eq d_has_facts rfl rfl rfl]
  have h1 := hw.f2
  have h2 := hw.b2
  cases v with
  | tup xs =>
    simp only [nice_tup, Bool.and_eq_true, decide_eq_true_eq] at hv
    rw [hasF_tup]
    by_cases hl : 6 < xs.length
    · have hl' : (6 : Int) < xs.length := by omega
      have : ¬ xs.length ≤ 6 := by omega
      simp [d_has_facts, hl, hl', this]
    · have hl' : ¬ (6 : Int) < xs.length := by omega
      have hl2 : xs.length ≤ 6 := by omega
      have hf : compL (turn1 (.nm 3) [3] (evT (run T (d + 3)) (.not (.call .is_fact (.cons (.var 2) (.cons (.var 3) .nil))))) (ev (run T (d + 3)) (.var 3)) [some (wd w f b), some (.tup xs), some (.int ((f : Int) + b)), none]) [] xs S = .ok (xs.filter fun x => !isFact ((f + b : Nat) : Int) x) S := compL_filter fun x hx => by
        have e := r_is_fact (d := d) (S := S) (many := f + b) (by omega) hN (nices_mem.mp hv.2 x hx) (by
          rw [depth_tup] at hd
          exact depths_le.mp (show depths xs ≤ 60 by omega) x hx)
        have ec : ((f + b : Nat) : Int) = (f : Int) + b := by omega
        rw [ec] at e ⊢
        simp [turn1, e]
        cases isFact ((f : Int) + b) x <;> simp
      have hc := capL_le (S := S) (vs := xs.filter fun x => !isFact ((f + b : Nat) : Int) x) (by have := List.length_filter_le (fun x => !isFact ((f + b : Nat) : Int) x) xs; omega)
      have hq := eqV_lst_nil S (isDatas_filter (p := fun x => !isFact ((f + b : Nat) : Int) x) (nices_data hv.2))
      rw [filter_empty] at hq
      generalize xs.filter (fun x => !isFact ((f + b : Nat) : Int) x) = L at *
      generalize xs.all (isFact ((f + b : Nat) : Int)) = B at *
      simp [d_has_facts, hl, hl', hl2, wd1, wd2, hf, hc, hq]
  | ref n => cases hv
  | fn f => cases hv
  | cls c => cases hv
  | exn c vs => cases hv
  | scr ns => cases hv
  | _ => simp [d_has_facts, hasF]
theorem r_need_facts {w f b : Nat} (hw : Wd w f b) {v : PV} {N : Nat} (hN : N ≤ 2000) (hv : nice N v = true) (hd : depth v ≤ 60) : run T (d + 5) .need_facts [wd w f b, v] S = if hasF ((f + b : Nat) : Int) v = true then .ok .non S else .exc .InvalidFacts [] S := by
  have e1 := r_need_wardrobe (d := d + 1) (S := S) (wd_data (w := w) (f := f) (b := b))
  have e2 := r_has_facts (d := d) (S := S) hw hN hv hd
  have hh := hw.has
  rw [run_eq d_need_facts rfl rfl rfl]
  generalize hasF ((f + b : Nat) : Int) v = B at *
  simp [d_need_facts, e1, hh, e2]
  cases B <;> simp
end Pw
/-! Mc2: shelves recognized; facts and shelves drawn. -/
namespace Pw
open PySem
variable {d : Nat} {S : PSt}
def isShelf (w : Int) : PV → Bool
  | .tup [.int a, b] => (decide (0 ≤ a) && decide (a ≤ w - 1)) && isWhole b (a + 1) w
  | _ => false
theorem isShelf_2 (w a : Int) (b : PV) : isShelf w (.tup [.int a, b]) = ((decide (0 ≤ a) && decide (a ≤ w - 1)) && isWhole b (a + 1) w) := rfl
theorem isShelf_len (w : Int) {xs : List PV} (h : xs.length ≠ 2) : isShelf w (.tup xs) = false := by
  rcases xs with _ | ⟨a, _ | ⟨b, _ | ⟨c, r⟩⟩⟩
  · rfl
  · cases a <;> rfl
  · simp at h
  · cases a <;> rfl
theorem r_is_shelf {w f b : Nat} {v : PV} (hv : isData v = true) : run T (d + 2) .is_shelf [wd w f b, v] S = .ok (.bl (isShelf w v)) S := by
  rw [run_eq d_is_shelf rfl rfl rfl]
  cases v with
  | tup xs =>
    by_cases hl : xs.length = 2
    · obtain ⟨x, y, rfl⟩ := len2 hl
      simp at hv
      cases hx : isWhole x 0 ((w : Int) - 1) with
      | true =>
        obtain ⟨i, rfl, h1, h2⟩ := isWhole_iff hx
        rw [isShelf_2]
        simp [d_is_shelf, eqI, hv, wd0, hx, h1, h2]
      | false =>
        have : isShelf w (.tup [x, y]) = false := by
          cases x with
          | int i =>
            rw [isShelf_2, ← isWhole_int, hx]
            rfl
          | _ => rfl
        rw [this]
        simp [d_is_shelf, eqI, hv, wd0, hx]
    · have hl' : ((xs.length : Int) = 2) = False := by simp; omega
      simp [d_is_shelf, eqI, hl', hl, isShelf_len _ hl]
  | ref n => simp at hv
  | fn f => simp at hv
  | cls c => simp at hv
  | exn c vs => simp at hv
  | scr ns => simp at hv
  | _ => simp [d_is_shelf, isShelf]
def leSh : PV → PV → Bool
  | .tup [_, .int b], .tup [.int c, _] => decide (b ≤ c)
  | _, _ => false
def hasSh (w : Int) : PV → Bool
  | .tup [x] => isShelf w x
  | .tup [x, y] => isShelf w x && isShelf w y && leSh x y
  | _ => false
theorem isShelf_iff {w : Int} {v : PV} (h : isShelf w v = true) : ∃ s : Sh, v = s.v ∧ 0 ≤ s.a ∧ s.a < s.b ∧ s.b ≤ w := by
  unfold isShelf at h
  split at h
  · rename_i a b
    simp only [Bool.and_eq_true, decide_eq_true_eq] at h
    obtain ⟨i, rfl, h1, h2⟩ := isWhole_iff h.2
    exact ⟨⟨a, i⟩, rfl, h.1.1, by show a < i; omega, h2⟩
  · cases h
theorem r_has_shelves {w f b : Nat} {v : PV} (hv : isData v = true) : run T (d + 3) .has_shelves [wd w f b, v] S = .ok (.bl (hasSh w v)) S := by
  rw [run_eq d_has_shelves rfl rfl rfl]
  cases v with
  | tup xs =>
    have hx : isDatas xs = true := hv
    have hf : compL (turn1 (.nm 2) [2] (evT (run T (d + 2)) (.not (.call .is_shelf (.cons (.var 0) (.cons (.var 2) .nil))))) (ev (run T (d + 2)) (.var 2)) [some (wd w f b), some (.tup xs), none]) [] xs S = .ok (xs.filter fun x => !isShelf w x) S := compL_filter fun x hx' => by
      have e := r_is_shelf (d := d) (S := S) (w := w) (f := f) (b := b) (isDatas_mem.mp hx x hx')
      simp [turn1, e]
      cases isShelf w x <;> simp
    rcases xs with _ | ⟨x, _ | ⟨y, _ | ⟨z, r⟩⟩⟩
    · simp [d_has_shelves, hasSh]
    · have hc := capL_le (S := S) (vs := [x].filter fun x => !isShelf w x) (by have := List.length_filter_le (fun x => !isShelf w x) [x]; simp at this ⊢; omega)
      have hq := eqV_lst_nil S (isDatas_filter (p := fun x => !isShelf w x) hx)
      rw [filter_empty] at hq
      have hA : [x].all (isShelf w) = isShelf w x := by simp
      rw [hA] at hq
      generalize [x].filter (fun x => !isShelf w x) = L at *
      show _ = R.ok (PV.bl (isShelf w x)) S
      cases hs : isShelf w x <;> rw [hs] at hq <;> simp [d_has_shelves, hf, hc, hq, eqI]
    · have hc := capL_le (S := S) (vs := [x, y].filter fun x => !isShelf w x) (by have := List.length_filter_le (fun x => !isShelf w x) [x, y]; simp at this ⊢; omega)
      have hq := eqV_lst_nil S (isDatas_filter (p := fun x => !isShelf w x) hx)
      rw [filter_empty] at hq
      have hA : [x, y].all (isShelf w) = (isShelf w x && isShelf w y) := by simp
      rw [hA] at hq
      generalize [x, y].filter (fun x => !isShelf w x) = L at *
      show _ = R.ok (PV.bl (isShelf w x && isShelf w y && leSh x y)) S
      cases hs : isShelf w x && isShelf w y with
      | false => rw [hs] at hq; simp [d_has_shelves, hf, hc, hq, eqI]
      | true =>
        rw [hs] at hq
        rw [Bool.and_eq_true] at hs
        obtain ⟨s, rfl, _⟩ := isShelf_iff hs.1
        obtain ⟨t, rfl, _⟩ := isShelf_iff hs.2
        have i1 : ∀ S, idxV S s.v (.int 1) = some (.int s.b) := fun S => by simp [Sh.v]
        have i2 : ∀ S, idxV S t.v (.int 0) = some (.int t.a) := fun S => by simp [Sh.v]
        have i3 : leSh s.v t.v = decide (s.b ≤ t.a) := rfl
        simp [d_has_shelves, hf, hc, hq, eqI, i1, i2, i3]
    · have h1 : ¬ ((r.length : Int) + 1 + 1 + 1 ≤ 2) := by omega
      have h2 : (1 : Int) ≤ (r.length : Int) + 1 + 1 + 1 := by omega
      have : hasSh w (.tup (x :: y :: z :: r)) = false := rfl
      rw [this]
      simp [d_has_shelves, h1, h2]
  | ref n => simp at hv
  | fn f => simp at hv
  | cls c => simp at hv
  | exn c vs => simp at hv
  | scr ns => simp at hv
  | _ => simp [d_has_shelves, hasSh]
theorem r_need_shelves {w f b : Nat} {v : PV} (hv : isData v = true) : run T (d + 4) .need_shelves [wd w f b, v] S = if hasSh w v = true then .ok .non S else .exc .InvalidShelves [] S := by
  have e := r_has_shelves (d := d) (S := S) (w := w) (f := f) (b := b) hv
  rw [run_eq d_need_shelves rfl rfl rfl]
  simp [d_need_shelves, e]
  cases hasSh w v <;> simp
theorem r_need_both {w f b : Nat} (hw : Wd w f b) {v : PV} (hv : isData v = true) : run T (d + 5) .need_both [wd w f b, v] S = if hasSh w v = true then .ok .non S else .exc .InvalidShelves [] S := by
  have e1 := r_need_wardrobe (d := d + 1) (S := S) (wd_data (w := w) (f := f) (b := b))
  have e := r_need_shelves (d := d) (S := S) (w := w) (f := f) (b := b) hv
  have hh := hw.has
  rw [run_eq d_need_both rfl rfl rfl]
  simp [d_need_both, e1, hh, e]
/-! ### draws -/
/-- a lot -/
structure LotOk (m : Nat) (l : List Nat) : Prop where
  ne : l ≠ []
  asc : l.Pairwise (· < ·)
  lt : ∀ i ∈ l, i < m
theorem LotOk.len {m : Nat} {l : List Nat} (h : LotOk m l) : l.length ≤ m := by
  have : ∀ (l : List Nat) (k : Nat), l.Pairwise (· < ·) → (∀ i ∈ l, k ≤ i ∧ i < m) → l.length + k ≤ max m k := by
    intro l
    induction l with
    | nil => intro k _ _; simp; omega
    | cons a l ih =>
      intro k hp hm
      rw [List.pairwise_cons] at hp
      have ha := hm a List.mem_cons_self
      have := ih (a + 1) hp.2 fun i hi => ⟨hp.1 i hi, (hm i (List.mem_cons_of_mem _ hi)).2⟩
      simp only [List.length_cons]
      omega
  have := this l 0 h.asc fun i hi => ⟨Nat.zero_le _, h.lt i hi⟩
  simpa using this
theorem r_lot {n m : Nat} (hm : 1 ≤ m) (hm2 : m ≤ 100) (v : Vat n S) : ∃ (l : List Nat) (S' : PSt), run T (d + 2) .l_lot [.ref n, .int (m : Int)] S = .ok (.tup (iL l)) S' ∧ LotOk m l ∧ Dr n S S' := by
  have sm : small62 (m : Int) = true := small_i (by omega) (by omega)
  -- those that are drawn
  obtain ⟨r, S1, e1, ⟨l, rfl, k1, k2, k3⟩, v1, d1⟩ := compL_inv (f := turn1 (.nm 3) [3] (evT (run T (d + 1)) (.cmp .eq (.call .l_under (.cons (.var 0) (.cons (.cst (.int 2)) .nil))) (.cst (.int 0)))) (ev (run T (d + 1)) (.var 3)) [some (.ref n), some (.int (m : Int)), none, none])
    (I := fun xs o S2 => (∃ l : List Nat, o = iL l ∧ l.Pairwise (· < ·) ∧ (∃ k, xs = iL (List.range' k (m - k)) ∧ k ≤ m ∧ ∀ i ∈ l, i < k) ∧ l.length ≤ m) ∧ Vat n S2 ∧ Dr n S S2) (fun x xs o S2 ⟨⟨l, c1, c2, ⟨k, c3, c4, c5⟩, c6⟩, v2, d2⟩ => by
      obtain ⟨j, S3, e3, a3, b3, d3⟩ := r_under (d := d) (many := 2) v2 (by omega) (by omega)
      have hk : k < m := by
        by_cases z : k < m
        · exact z
        · have : m - k = 0 := by omega
          rw [this] at c3
          cases c3
      have er : List.range' k (m - k) = k :: List.range' (k + 1) (m - (k + 1)) := by
        rw [show m - k = (m - (k + 1)) + 1 by omega, List.range'_succ]
      rw [er] at c3
      have ex : x = .int (k : Int) ∧ xs = iL (List.range' (k + 1) (m - (k + 1))) := by
        unfold iL at c3 ⊢
        rw [List.map_cons] at c3
        injection c3 with q1 q2
        exact ⟨q1, q2⟩
      obtain ⟨rfl, rfl⟩ := ex
      by_cases hj : j = 0
      · refine ⟨[.int (k : Int)], S3, ?_, ⟨l ++ [k], by rw [c1, iL_app]; rfl, ?_, ⟨k + 1, rfl, hk, fun i hi => ?_⟩, ?_⟩, d3.vat v2, d2.trans d3⟩
        · simp [turn1, e3, hj, eqI]
        · rw [List.pairwise_append]
          exact ⟨c2, by simp, fun a ha b hb => by rw [List.mem_singleton.mp hb]; exact c5 a ha⟩
        · rcases List.mem_append.mp hi with z | z
          · have := c5 i z; omega
          · rw [List.mem_singleton.mp z]; omega
        · have : LotOk m (l ++ [k]) := ⟨by simp, by
            rw [List.pairwise_append]
            exact ⟨c2, by simp, fun a ha b hb => by rw [List.mem_singleton.mp hb]; exact c5 a ha⟩, fun i hi => by
            rcases List.mem_append.mp hi with z | z
            · have := c5 i z; omega
            · rw [List.mem_singleton.mp z]; omega⟩
          exact this.len
      · refine ⟨[], S3, ?_, ⟨l, by rw [c1]; simp, c2, ⟨k + 1, rfl, hk, fun i hi => by have := c5 i hi; omega⟩, c6⟩, d3.vat v2, d2.trans d3⟩
        simp [turn1, e3, hj, eqI]) (iL (List.range m)) [] S ⟨⟨[], rfl, by simp, ⟨0, by rw [List.range_eq_range', Nat.sub_zero], Nat.zero_le _, by simp⟩, by simp⟩, v, v.dr⟩
  obtain ⟨k, _, hk, hlt⟩ := k2
  have hc := capL_le (S := S1) (vs := iL l) (by simp [iL]; omega)
  have hl1 := d1.len
  by_cases hl : l = []
  · subst hl
    obtain ⟨j, S2, e2, a2, b2, d2⟩ := r_under (d := d) (many := m) v1 (by omega) (by omega)
    obtain ⟨j, rfl⟩ := Int.eq_ofNat_of_zero_le a2
    refine ⟨[j], S2, ?_, ⟨by simp, by simp, fun i hi => by rw [List.mem_singleton.mp hi]; omega⟩, d1.trans d2⟩
    have hl2 := d2.len
    rw [run_eq d_l_lot rfl rfl rfl]
    have ei : iL [] = [] := rfl
    rw [ei] at e1 hc
    show _ = R.ok (PV.tup [PV.int (j : Int)]) S2
    simp [d_l_lot, sm, rngL_iL, e1, hc, eqV_lst_nil, e2, hl1, hl2]
  · refine ⟨l, S1, ?_, ⟨hl, k1, fun i hi => by have := hlt i hi; omega⟩, d1⟩
    have hq := eqV_lst_nil S1 (iL_data l)
    have he : (iL l).isEmpty = false := by simpa [iL] using hl
    rw [he] at hq
    rw [run_eq d_l_lot rfl rfl rfl]
    simp [d_l_lot, sm, rngL_iL, e1, hc, hq, hl1]
end Pw
/-! Mc3: facts and shelves drawn. -/
namespace Pw
open PySem
variable {d : Nat} {S : PSt}
structure HiOk (lo : Int) (hi : Option Int) : Prop where
  ok : ∀ i, hi = some i → lo ≤ i ∧ i ≤ 1000000
/-- a fact of so many doors -/
def Fact.Ok (m : Nat) : Fact → Prop
  | .wid a b => LotOk m a ∧ LotOk m b ∧ a ≠ b
  | .sum l lo hi => LotOk m l ∧ 0 ≤ lo ∧ lo ≤ 1000000 ∧ HiOk lo hi
theorem lot_nice {m : Nat} {l : List Nat} (hm : m ≤ 100) (h : LotOk m l) : nice 0 (.tup (iL l)) = true := by
  have := h.len
  rw [nice_tup, Bool.and_eq_true]
  refine ⟨decide_eq_true (by simp [iL]; omega), nices_mem.mpr fun x hx => ?_⟩
  obtain ⟨i, hi, rfl⟩ := List.mem_map.mp hx
  have := h.lt i hi
  rw [nice_int]
  refine decide_eq_true ?_
  rw [log2_lt (by omega)]
  have : (2 : Nat) ^ 7 ≤ 2 ^ (0 + 200) := Nat.pow_le_pow_right (by decide) (by decide)
  omega
theorem small_nice {i : Int} (h1 : -1000000000 ≤ i) (h2 : i ≤ 1000000000) : nice 0 (.int i) = true := by
  rw [nice_int]
  refine decide_eq_true ?_
  rw [log2_lt (by omega)]
  have : (2 : Nat) ^ 30 ≤ 2 ^ (0 + 200) := Nat.pow_le_pow_right (by decide) (by decide)
  omega
theorem toI_iL (l : List Nat) : toI (iL l) = l.map fun (i : Nat) => (i : Int) := by
  induction l with
  | nil => rfl
  | cons a l ih =>
    show (a : Int) :: toI (iL l) = _
    rw [ih]
    rfl
theorem lot_isLot {m : Nat} {l : List Nat} (h : LotOk m l) : isLot m (.tup (iL l)) = true := by
  rw [isLot_tup, Bool.and_eq_true, Bool.and_eq_true]
  refine ⟨⟨by have := h.ne; simpa [iL] using this, List.all_eq_true.mpr fun x hx => ?_⟩, ?_⟩
  · obtain ⟨i, hi, rfl⟩ := List.mem_map.mp hx
    have := h.lt i hi
    rw [isWhole_int, decide_eq_true (by omega), decide_eq_true (by omega)]
    rfl
  · rw [toI_iL]
    unfold ascI
    rw [List.all_eq_true]
    intro i hi
    rw [List.mem_range'_1, List.length_map] at hi
    refine decide_eq_true ?_
    have h1 : i - 1 < l.length := by omega
    have h2 : i < l.length := by omega
    have := List.pairwise_iff_getElem.mp h.asc (i - 1) i h1 h2 (by omega)
    simp [List.getD, h1, h2]
    exact this
theorem pyEq_iL : ∀ a b : List Nat, pyEq (.tup (iL a)) (.tup (iL b)) = decide (a = b)
  | [], [] => rfl
  | [], _ :: _ => rfl
  | _ :: _, [] => rfl
  | x :: a, y :: b => by
    have ih := pyEq_iL a b
    have ih : pyEqs (iL a) (iL b) = decide (a = b) := ih
    show (((x : Int) == (y : Int)) && pyEqs (iL a) (iL b)) = _
    rw [ih]
    by_cases h : x = y
    · subst h; simp
    · have : ¬ (x : Int) = y := by omega
      simp [h, this]
theorem isNon_hiV (hi : Option Int) (lo : Int) (h : HiOk lo hi) : (isNon (hiV hi) || isWhole (hiV hi) lo 1000000) = true := by
  cases hi with
  | none => rfl
  | some i =>
    obtain ⟨h1, h2⟩ := h.ok i rfl
    show (false || isWhole (.int i) lo 1000000) = true
    rw [isWhole_int, decide_eq_true h1, decide_eq_true h2]
    rfl
theorem fact_is {m : Nat} {fa : Fact} (h : fa.Ok m) : isFact m fa.v = true := by
  cases fa with
  | wid a b =>
    obtain ⟨h1, h2, h3⟩ := h
    show isFact m (.tup [.str "wider", .tup (iL a), .tup (iL b)]) = true
    rw [isFact_3, lot_isLot h1, lot_isLot h2, pyEq_iL]
    simp [h3]
  | sum l lo hi =>
    obtain ⟨h1, h2, h3, h4⟩ := h
    show isFact m (.tup [.str "sum", .tup (iL l), .int lo, hiV hi]) = true
    rw [isFact_4, lot_isLot h1, isWhole_int, decide_eq_true h2, decide_eq_true h3]
    have := isNon_hiV hi lo h4
    simp [this]
theorem fact_nice {m : Nat} (hm : m ≤ 100) {fa : Fact} (h : fa.Ok m) : nice 0 fa.v = true := by
  have k1 : ("wider" : PySem.Str).length = 5 := by decide +kernel
  have k2 : ("sum" : PySem.Str).length = 3 := by decide +kernel
  cases fa with
  | wid a b =>
    obtain ⟨h1, h2, h3⟩ := h
    have n1 := lot_nice hm h1
    have n2 := lot_nice hm h2
    show nice 0 (.tup [.str "wider", .tup (iL a), .tup (iL b)]) = true
    rw [nice_tup, nices_cons, nices_cons, nices_cons, n1, n2, nice_str, k1]
    rfl
  | sum l lo hi =>
    obtain ⟨h1, h2, h3, h4⟩ := h
    have n1 := lot_nice hm h1
    have n2 := small_nice (i := lo) (by omega) (by omega)
    have n3 : nice 0 (hiV hi) = true := by
      cases hi with
      | none => rfl
      | some i =>
        obtain ⟨g1, g2⟩ := h4.ok i rfl
        exact small_nice (by omega) (by omega)
    show nice 0 (.tup [.str "sum", .tup (iL l), .int lo, hiV hi]) = true
    rw [nice_tup, nices_cons, nices_cons, nices_cons, nices_cons, n1, n2, n3, nice_str, k2]
    rfl
theorem depth_iL (l : List Nat) : depths (iL l) = 0 := by
  have : depths (iL l) ≤ 0 := depths_le.mpr fun x hx => by
    obtain ⟨i, _, rfl⟩ := List.mem_map.mp hx
    simp
  omega
theorem fact_depth (fa : Fact) : depth fa.v ≤ 2 := by
  cases fa with
  | wid a b => simp [Fact.v, depth_iL]
  | sum l lo hi => cases hi <;> simp [Fact.v, hiV, depth_iL]
/-- facts -/
structure FactsOk (m : Nat) (fs : List Fact) : Prop where
  len : fs.length ≤ 6
  ok : ∀ fa ∈ fs, fa.Ok m
def fsV (fs : List Fact) : PV := .tup (fs.map Fact.v)
theorem facts_nice {m : Nat} (hm : m ≤ 100) {fs : List Fact} (h : FactsOk m fs) : nice 0 (fsV fs) = true := by
  unfold fsV
  rw [nice_tup, Bool.and_eq_true]
  refine ⟨decide_eq_true (by simp; have := h.len; omega), nices_mem.mpr fun x hx => ?_⟩
  obtain ⟨fa, hfa, rfl⟩ := List.mem_map.mp hx
  exact fact_nice hm (h.ok fa hfa)
theorem facts_depth (fs : List Fact) : depth (fsV fs) ≤ 3 := by
  unfold fsV
  rw [depth_tup]
  have : depths (fs.map Fact.v) ≤ 2 := depths_le.mpr fun x hx => by
    obtain ⟨fa, _, rfl⟩ := List.mem_map.mp hx
    exact fact_depth fa
  omega
theorem facts_has {m : Nat} {fs : List Fact} (h : FactsOk m fs) : hasF m (fsV fs) = true := by
  unfold fsV
  rw [hasF_tup, Bool.and_eq_true]
  refine ⟨decide_eq_true (by simpa using h.len), List.all_eq_true.mpr fun x hx => ?_⟩
  obtain ⟨fa, hfa, rfl⟩ := List.mem_map.mp hx
  exact fact_is (h.ok fa hfa)
theorem r_need_facts_ok {w f b : Nat} (hw : Wd w f b) {fs : List Fact} (h : FactsOk (f + b) fs) : run T (d + 5) .need_facts [wd w f b, fsV fs] S = .ok .non S := by
  have h1 := hw.f2
  have h2 := hw.b2
  rw [r_need_facts hw (N := 0) (by omega) (facts_nice (by omega) h) (by have := facts_depth fs; omega), if_pos (facts_has h)]
/-- a fact that is drawn -/
theorem r_l_fact {w f b n : Nat} (hw : Wd w f b) (v : Vat n S) : ∃ (fa : Fact) (S' : PSt), run T (d + 3) .l_fact [.ref n, wd w f b] S = .ok fa.v S' ∧ fa.Ok (f + b) ∧ Dr n S S' := by
  have hf := hw.f1
  have hf2 := hw.f2
  have hb := hw.b1
  have hb2 := hw.b2
  have ec : (f : Int) + b = ((f + b : Nat) : Int) := by omega
  obtain ⟨l1, S1, e1, k1, d1⟩ := r_lot (d := d) (m := f + b) (by omega) (by omega) v
  obtain ⟨l2, S2, e2, k2, d2⟩ := r_lot (d := d) (m := f + b) (by omega) (by omega) (d1.vat v)
  obtain ⟨j, S3, e3, a3, b3, d3⟩ := r_under (d := d + 1) (many := 3) (d2.vat (d1.vat v)) (by omega) (by omega)
  have v3 := d3.vat (d2.vat (d1.vat v))
  have e3 : run T (d + 2) .l_under [.ref n, .int 3] S2 = .ok (.int j) S3 := e3
  have h1 := d1.len
  have h2 := d2.len
  have h3 := d3.len
  have ne : eqV S3 (.tup (iL l1)) (.tup (iL l2)) = some (decide (l1 = l2)) := by
    rw [eqV_data S3 (show isData (.tup (iL l1)) = true from iL_data l1) (show isData (.tup (iL l2)) = true from iL_data l2) (by simp [depth_iL]), pyEq_iL]
  rw [← ec] at e1 e2
  by_cases hc : j = 0 ∧ l1 ≠ l2
  · refine ⟨.wid l1 l2, S3, ?_, ⟨k1, k2, hc.2⟩, d1.trans (d2.trans d3)⟩
    rw [run_eq d_l_fact rfl rfl rfl]
    simp [d_l_fact, wd1, wd2, e1, e2, e3, hc.1, eqI, ne, hc.2, h1, h2, h3, Fact.v]
  · have hlen := k1.len
    obtain ⟨lo, S4, e4, a4, b4, d4⟩ := r_under (d := d + 1) (many := 4 + (iL l1).length) v3 (by omega) (by simp [iL]; omega)
    have e4 : run T (d + 2) .l_under [.ref n, .int (4 + ((iL l1).length : Int))] S3 = .ok (.int lo) S4 := e4
    obtain ⟨x, S5, e5, hx, d5⟩ := r_some (d := d) (v := .lst [.non, .int lo, .int (lo + 1), .int (lo + 3), .int (lo + 5)]) (d4.vat v3) (.inr rfl) (by simp) (by simp)
    have h4 := d4.len
    have h5 := d5.len
    have hlo : lo ≤ 1000 := by simp [iL] at b4; omega
    obtain ⟨hi, rfl, hhi⟩ : ∃ hi, x = hiV hi ∧ HiOk lo hi := by
      simp only [List.mem_cons, List.not_mem_nil, or_false] at hx
      rcases hx with z | z | z | z | z
      · exact ⟨none, z, ⟨fun i q => by cases q⟩⟩
      · exact ⟨some lo, z, ⟨fun i q => by cases q; omega⟩⟩
      · exact ⟨some (lo + 1), z, ⟨fun i q => by cases q; omega⟩⟩
      · exact ⟨some (lo + 3), z, ⟨fun i q => by cases q; omega⟩⟩
      · exact ⟨some (lo + 5), z, ⟨fun i q => by cases q; omega⟩⟩
    refine ⟨.sum l1 lo hi, S5, ?_, ⟨k1, a4, by omega, hhi⟩, d1.trans (d2.trans (d3.trans (d4.trans d5)))⟩
    rw [run_eq d_l_fact rfl rfl rfl]
    by_cases hj : j = 0
    · have hl : l1 = l2 := by
        by_cases z : l1 = l2
        · exact z
        · exact absurd ⟨hj, z⟩ hc
      have ne' : eqV S3 (.tup (iL l1)) (.tup (iL l2)) = some true := by rw [ne, decide_eq_true hl]
      simp [d_l_fact, wd1, wd2, e1, e2, e3, hj, eqI, ne', h1, h2, h3, h4, h5, Fact.v, e4, e5]
    · simp [d_l_fact, wd1, wd2, e1, e2, e3, hj, eqI, h1, h2, h3, h4, h5, Fact.v, e4, e5]
/-- shelves -/
structure ShOk (w : Int) (l : List Sh) : Prop where
  len : l.length = 1 ∨ l.length = 2
  one : ∀ s ∈ l, 0 ≤ s.a ∧ s.a < s.b ∧ s.b ≤ w
  two : ∀ s t, l = [s, t] → s.b ≤ t.a
theorem sh_is {w : Int} {s : Sh} (h : 0 ≤ s.a ∧ s.a < s.b ∧ s.b ≤ w) : isShelf w s.v = true := by
  unfold Sh.v
  rw [isShelf_2, isWhole_int]
  simp
  omega
theorem sh_has {w : Int} {l : List Sh} (h : ShOk w l) : hasSh w (shV l) = true := by
  obtain ⟨h1, h2, h3⟩ := h
  rcases l with _ | ⟨s, _ | ⟨t, _ | ⟨u, r⟩⟩⟩
  · simp at h1
  · exact sh_is (h2 s (by simp))
  · show (isShelf w s.v && isShelf w t.v && decide (s.b ≤ t.a)) = true
    rw [sh_is (h2 s (by simp)), sh_is (h2 t (by simp)), decide_eq_true (h3 s t rfl)]
    rfl
  · simp at h1
theorem sh_data (l : List Sh) : isData (shV l) = true := by
  show isDatas (l.map Sh.v) = true
  exact isDatas_mem.mpr fun x hx => by
    obtain ⟨s, _, rfl⟩ := List.mem_map.mp hx
    rfl
theorem r_l_shelves {w f b n : Nat} (hw : 1 ≤ w) (hw2 : w ≤ 1000000) (v : Vat n S) : ∃ (l : List Sh) (S' : PSt), run T (d + 2) .l_shelves [.ref n, wd w f b] S = .ok (shV l) S' ∧ ShOk w l ∧ Dr n S S' := by
  obtain ⟨lo, S1, e1, a1, b1, d1⟩ := r_under (d := d) (many := w) v (by omega) (by omega)
  obtain ⟨x, S2, e2, a2, b2, d2⟩ := r_under (d := d) (many := if (w : Int) - lo < 3 then (w : Int) - lo else 3) (d1.vat v) (by split <;> omega) (by split <;> omega)
  have v2 := d2.vat (d1.vat v)
  have h1 := d1.len
  have h2 := d2.len
  have hx : lo + 1 + x ≤ w := by split at b2 <;> omega
  by_cases hc : lo + 1 + x + 1 < w
  · obtain ⟨y, S3, e3, a3, b3, d3⟩ := r_under (d := d) (many := 2) v2 (by omega) (by omega)
    have h3 := d3.len
    by_cases hy : y = 0
    · obtain ⟨z, S4, e4, a4, b4, d4⟩ := r_under (d := d) (many := w - (lo + 1 + x)) (d3.vat v2) (by omega) (by omega)
      have h4 := d4.len
      refine ⟨[⟨lo, lo + 1 + x⟩, ⟨lo + 1 + x + z, lo + 1 + x + z + 1⟩], S4, ?_, ⟨.inr rfl, fun s hs => ?_, fun s t q => ?_⟩, d1.trans (d2.trans (d3.trans d4))⟩
      · rw [run_eq d_l_shelves rfl rfl rfl]
        simp [d_l_shelves, wd0, e1, e2, hc, e3, hy, eqI, e4, h1, h2, h3, h4, shV, Sh.v]
      · simp at hs
        rcases hs with rfl | rfl
        · exact ⟨a1, by show lo < lo + 1 + x; omega, hx⟩
        · refine ⟨?_, ?_, ?_⟩
          · show 0 ≤ lo + 1 + x + z; omega
          · show lo + 1 + x + z < lo + 1 + x + z + 1; omega
          · show lo + 1 + x + z + 1 ≤ w; omega
      · cases q
        show lo + 1 + x ≤ lo + 1 + x + z
        omega
    · refine ⟨[⟨lo, lo + 1 + x⟩], S3, ?_, ⟨.inl rfl, fun s hs => ?_, fun s t q => by cases q⟩, d1.trans (d2.trans d3)⟩
      · rw [run_eq d_l_shelves rfl rfl rfl]
        simp [d_l_shelves, wd0, e1, e2, hc, e3, hy, eqI, h1, h2, h3, shV, Sh.v]
      · simp at hs
        subst hs
        exact ⟨a1, by show lo < lo + 1 + x; omega, hx⟩
  · refine ⟨[⟨lo, lo + 1 + x⟩], S2, ?_, ⟨.inl rfl, fun s hs => ?_, fun s t q => by cases q⟩, d1.trans d2⟩
    · rw [run_eq d_l_shelves rfl rfl rfl]
      simp [d_l_shelves, wd0, e1, e2, hc, eqI, h1, h2, shV, Sh.v]
    · simp at hs
      subst hs
      exact ⟨a1, by show lo < lo + 1 + x; omega, hx⟩
end Pw
/-! Mc4: cuts recognized; blocks, ways, rows as they are asked for. -/
namespace Pw
open PySem
variable {d : Nat} {S : PSt}
mutual
theorem pyEq_refl : ∀ {v : PV}, isData v = true → pyEq v v = true
  | .non, _ => rfl
  | .bl b, _ => by simp [pyEq]
  | .int i, _ => by simp [pyEq]
  | .str x, _ => by simp [pyEq]
  | .tup xs, h => pyEqs_refl (vs := xs) h
  | .lst xs, h => pyEqs_refl (vs := xs) h
  | .ref _, h => by cases h
  | .fn _, h => by cases h
  | .cls _, h => by cases h
  | .exn _ _, h => by cases h
  | .scr _, h => by cases h
theorem pyEqs_refl : ∀ {vs : List PV}, isDatas vs = true → pyEqs vs vs = true
  | [], _ => rfl
  | x :: xs, h => by
    rw [isDatas_cons, Bool.and_eq_true] at h
    show (pyEq x x && pyEqs xs xs) = true
    rw [pyEq_refl h.1, pyEqs_refl h.2]
    rfl
end
theorem eqV_refl (S : PSt) {v : PV} (h : isData v = true) (hd : depth v ≤ 60) : eqV S v v = some true := by
  rw [eqV_data S h h hd, pyEq_refl h]
theorem ints_depth (l : List Int) : depths (l.map PV.int) = 0 := by
  have : depths (l.map PV.int) ≤ 0 := depths_le.mpr fun x hx => by
    obtain ⟨i, _, rfl⟩ := List.mem_map.mp hx
    simp
  omega
theorem Rw.depth_v (r : Rw) : depth r.v ≤ 1 := by
  unfold Rw.v
  rw [depth_tup, depths_cons]
  have : depths (r.cs.map PV.int ++ [.bl r.s]) ≤ 0 := depths_app.mpr ⟨by rw [ints_depth]; exact Nat.le_refl _, by simp⟩
  simp
  omega
theorem rV_depth (l : List Rw) : depth (.lst (rV l)) ≤ 2 := by
  rw [depth_lst]
  have : depths (rV l) ≤ 1 := depths_le.mpr fun x hx => by
    obtain ⟨r, _, rfl⟩ := List.mem_map.mp hx
    exact r.depth_v
  omega
theorem eq_rV (S : PSt) (l : List Rw) : eqV S (.lst (rV l)) (.lst (rV l)) = some true := eqV_refl S (rV_data l) (by have := rV_depth l; omega)
theorem inV_cs (c : List Nat) : ∀ L : List (List Nat), inV (cV c) (csV L) = decide (c ∈ L)
  | [] => by simp [csV, inV]
  | x :: L => by
    show (pyEq (cV x) (cV c) || inV (cV c) (csV L)) = _
    rw [inV_cs c L]
    have e : pyEq (cV x) (cV c) = decide (x = c) := pyEq_iL x c
    rw [e]
    by_cases h1 : x = c
    · subst h1; simp
    · have : ¬ c = x := fun z => h1 z.symm
      simp [h1, this]
def cutOk (f b p less : Nat) (rv cv : PV) : Bool := match rv with
  | .int k => decide (0 ≤ k) && decide (k ≤ 1) && (match cv with
    | .tup xs => xs.all (fun x => isWhole x 0 ((parts f b k.toNat - less : Nat) : Int)) && inV cv (csV (cutsF p (parts f b k.toNat - less)))
    | _ => false)
  | _ => false
def cutIn (p M : Nat) : PV → Bool
  | .tup xs => xs.all (fun x => isWhole x 0 (M : Int)) && inV (.tup xs) (csV (cutsF p M))
  | _ => false
theorem cutOk_int {f b p less k : Nat} (h : k ≤ 1) (cv : PV) : cutOk f b p less (.int (k : Int)) cv = cutIn p (parts f b k - less) cv := by
  have h1 : (0 : Int) ≤ k := by omega
  have h2 : (k : Int) ≤ 1 := by omega
  unfold cutOk
  cases cv <;> simp [h1, h2, cutIn]
theorem r_need_cut {w f b : Nat} (hw : Wd w f b) {l : List Sh} (hl : ShOk w l) {less : Nat} (hless : less ≤ 1) {rv cv : PV} (hr : isData rv = true) {N : Nat} (hN : N ≤ 2000) (hc : nice N cv = true) (hd : depth cv ≤ 60) :
    run T (d + 6) .need_cut [wd w f b, shV l, rv, cv, .int (less : Int)] S = if cutOk f b l.length less rv cv = true then .ok .non S else .exc .InvalidNumber [] S := by
  have hcd := nice_data hc
  have e1 := r_need_both (d := d) (S := S) hw (sh_data l)
  rw [sh_has hl, if_pos rfl] at e1
  rw [run_eq d_need_cut rfl rfl rfl]
  cases hwr : isWhole rv 0 1 with
  | false =>
    have : cutOk f b l.length less rv cv = false := by
      cases rv with
      | int k =>
        rw [isWhole_int] at hwr
        show (decide (0 ≤ k) && decide (k ≤ 1) && _) = false
        rw [hwr, Bool.false_and]
      | _ => rfl
    rw [this]
    simp [d_need_cut, e1, hr, hwr]
  | true =>
    obtain ⟨k, rfl, h1, h2⟩ := isWhole_iff hwr
    obtain ⟨k, rfl⟩ := Int.eq_ofNat_of_zero_le h1
    have hk : k = 0 ∨ k = 1 := by omega
    obtain ⟨p1, p2⟩ := parts_le (k := k) hw
    have eo := cutOk_int (f := f) (b := b) (p := l.length) (less := less) (k := k) (by omega) cv
    have ei : ∀ S, idxV S (wd w f b) (.int (1 + (k : Int))) = some (.int ((parts f b k : Nat) : Int)) := fun S => by
      rcases hk with rfl | rfl
      · exact wd1 S w f b
      · exact wd2 S w f b
    have em : ((parts f b k : Nat) : Int) - (less : Int) = ((parts f b k - less : Nat) : Int) := by omega
    have ec := r_cuts_of (d := d + 4) (S := S) hl.len (most := parts f b k - less) (by omega)
    have ec : run T (d + 5) .cuts_of [.int (l.length : Int), .int ((parts f b k - less : Nat) : Int)] S = _ := ec
    generalize parts f b k - less = M at *
    rw [eo]
    cases cv with
    | tup xs =>
      have hx : isDatas xs = true := hcd
      have hlen : xs.length ≤ 1000000 := by
        simp only [nice_tup, Bool.and_eq_true, decide_eq_true_eq] at hc
        omega
      have hf : compL (turn1 (.nm 6) [6] (evT (run T (d + 5)) (.not (.call .is_whole (.cons (.var 6) (.cons (.cst (.int 0)) (.cons (.var 5) .nil)))))) (ev (run T (d + 5)) (.var 6)) [some (wd w f b), some (shV l), some (.int (k : Int)), some (.tup xs), some (.int (less : Int)), some (.int (M : Int)), none]) [] xs S = .ok (xs.filter fun x => !isWhole x 0 (M : Int)) S := compL_filter fun x hx' => by
        have hx' := isDatas_mem.mp hx x hx'
        simp [turn1, hx']
        cases isWhole x 0 (M : Int) <;> simp
      have hcp := capL_le (S := S) (vs := xs.filter fun x => !isWhole x 0 (M : Int)) (by have := List.length_filter_le (fun x => !isWhole x 0 (M : Int)) xs; omega)
      have hq := eqV_lst_nil S (isDatas_filter (p := fun x => !isWhole x 0 (M : Int)) hx)
      rw [filter_empty] at hq
      have hin : cmpV.inC S (.tup xs) (.lst (csV (cutsF l.length M))) = some (inV (.tup xs) (csV (cutsF l.length M))) := by
        rw [inC_lst, csV_data, hcd, decide_eq_true hd]
        rfl
      generalize xs.filter (fun x => !isWhole x 0 (M : Int)) = L at *
      show _ = if (xs.all (fun x => isWhole x 0 (M : Int)) && inV (.tup xs) (csV (cutsF l.length M))) = true then _ else _
      generalize xs.all (fun x => isWhole x 0 (M : Int)) = B at *
      generalize inV (.tup xs) (csV (cutsF l.length M)) = B2 at *
      have hni : ∀ v, cmpV S .notin v (.lst (csV (cutsF l.length M))) = (cmpV.inC S v (.lst (csV (cutsF l.length M)))).map (!·) := fun v => cmpV_notin_lst S _ v
      cases B with
      | false => simp [d_need_cut, e1, hwr, ei, em, hf, hcp, hq]
      | true =>
        cases B2 <;> simp [d_need_cut, e1, hwr, ei, em, hf, hcp, hq, shV_len, ec, hin, -inC_lst]
    | ref n => cases hc
    | fn f => cases hc
    | cls c => cases hc
    | exn c vs => cases hc
    | scr ns => cases hc
    | _ => simp [d_need_cut, e1, hwr, ei, em, cutIn]
def cutsLe (p most : Nat) : Bool := (cutsF p most).all fun c => c.all (fun i => decide (i ≤ most)) && decide (c.length ≤ 2)
theorem cuts_le : ∀ most, most < 4 → cutsLe 1 most = true ∧ cutsLe 2 most = true := by decide
theorem cut_mem {p most : Nat} (hp : p = 1 ∨ p = 2) (hm : most ≤ 3) {c : List Nat} (h : c ∈ cutsF p most) : (∀ i ∈ c, i ≤ most) ∧ c.length ≤ 2 := by
  obtain ⟨h1, h2⟩ := cuts_le most (by omega)
  have : cutsLe p most = true := by rcases hp with rfl | rfl <;> assumption
  have := List.all_eq_true.mp this c h
  rw [Bool.and_eq_true, List.all_eq_true] at this
  exact ⟨fun i hi => of_decide_eq_true (this.1 i hi), of_decide_eq_true this.2⟩
theorem cV_nice {c : List Nat} (h : ∀ i ∈ c, i ≤ 100) (hl : c.length ≤ 10) : nice 0 (cV c) = true := by
  unfold cV
  rw [nice_tup, Bool.and_eq_true]
  refine ⟨decide_eq_true (by simp [iL]; omega), nices_mem.mpr fun x hx => ?_⟩
  obtain ⟨i, hi, rfl⟩ := List.mem_map.mp hx
  have := h i hi
  exact small_nice (by omega) (by omega)
theorem cutOk_mem {f b p less k : Nat} (hk : k = 0 ∨ k = 1) {c : List Nat} (hp : p = 1 ∨ p = 2) (hm : parts f b k - less ≤ 3) (h : c ∈ cutsF p (parts f b k - less)) : cutOk f b p less (.int (k : Int)) (cV c) = true := by
  have h1 : (0 : Int) ≤ k := by omega
  have h2 : (k : Int) ≤ 1 := by omega
  obtain ⟨g1, g2⟩ := cut_mem hp hm h
  show (decide (0 ≤ (k : Int)) && decide ((k : Int) ≤ 1) && ((iL c).all (fun x => isWhole x 0 ((parts f b k - less : Nat) : Int)) && inV (cV c) (csV (cutsF p (parts f b k - less))))) = true
  rw [decide_eq_true h1, decide_eq_true h2, inV_cs, decide_eq_true h]
  simp only [Bool.and_true, Bool.true_and]
  refine List.all_eq_true.mpr fun x hx => ?_
  obtain ⟨i, hi, rfl⟩ := List.mem_map.mp hx
  have := g1 i hi
  rw [isWhole_int, decide_eq_true (by omega), decide_eq_true (by omega)]
  rfl
theorem r_block_rows {w f b : Nat} (hw : Wd w f b) (hS : okS S = true) {l : List Sh} (hl : ShOk w l) {k : Nat} (hk : k = 0 ∨ k = 1) {c : List Nat} (h : c ∈ cutsF l.length (parts f b k - 1)) : run T (d + 7) .block_rows [wd w f b, shV l, .int (k : Int), cV c] S = .ok (.lst (rV (rowsOfBlock w f b l k c))) S := by
  obtain ⟨p1, p2⟩ := parts_le (k := k) hw
  obtain ⟨g1, g2⟩ := cut_mem hl.len (by omega) h
  have e1 := r_need_cut (d := d) (S := S) hw hl (less := 1) (by omega) (rv := .int (k : Int)) rfl (N := 0) (by omega) (cV_nice (c := c) (fun i hi => by have := g1 i hi; omega) (by omega)) (by unfold cV; rw [depth_tup, depth_iL]; omega)
  rw [cutOk_mem hk hl.len (by omega) h, if_pos rfl] at e1
  have e1 : run T (d + 6) .need_cut [wd w f b, shV l, .int (k : Int), cV c, .int 1] S = _ := e1
  have e2 := r_rows_of_block (d := d + 4) (S := S) hw hS hl.len (k := k) (c := c) (by omega)
  rw [run_eq d_block_rows rfl rfl rfl]
  simp [d_block_rows, e1, e2]
theorem r_way_rows {w f b : Nat} (hw : Wd w f b) (hS : okS S = true) {l : List Sh} (hl : ShOk w l) {k : Nat} (hk : k = 0 ∨ k = 1) {c : List Nat} (h : c ∈ cutsF l.length (parts f b k)) : run T (d + 7) .way_rows [wd w f b, shV l, .int (k : Int), cV c] S = .ok (.lst (rV (rowsOfWay w f b l k c))) S := by
  obtain ⟨p1, p2⟩ := parts_le (k := k) hw
  obtain ⟨g1, g2⟩ := cut_mem hl.len (by omega) h
  have e1 := r_need_cut (d := d) (S := S) hw hl (less := 0) (by omega) (rv := .int (k : Int)) rfl (N := 0) (by omega) (cV_nice (c := c) (fun i hi => by have := g1 i hi; omega) (by omega)) (by unfold cV; rw [depth_tup, depth_iL]; omega)
  rw [cutOk_mem hk hl.len (by omega) h, if_pos rfl] at e1
  have e1 : run T (d + 6) .need_cut [wd w f b, shV l, .int (k : Int), cV c, .int 0] S = _ := e1
  have e2 := r_rows_of_way (d := d + 4) (S := S) hw hS hl.len (k := k) (c := c) (by omega)
  rw [run_eq d_way_rows rfl rfl rfl]
  simp [d_way_rows, e1, e2]
theorem r_blocks {w f b : Nat} (hw : Wd w f b) {l : List Sh} (hl : ShOk w l) : run T (d + 6) .blocks [wd w f b, shV l] S = .ok (.lst ((allBlocks f b l.length).map bV)) S := by
  have e1 := r_need_both (d := d) (S := S) hw (sh_data l)
  rw [sh_has hl, if_pos rfl] at e1
  have e2 := r_all_blocks (d := d + 3) (S := S) hw hl.len
  rw [run_eq d_blocks rfl rfl rfl]
  simp [d_blocks, e1, e2]
theorem r_ways {w f b : Nat} (hw : Wd w f b) {l : List Sh} (hl : ShOk w l) : run T (d + 6) .ways [wd w f b, shV l] S = .ok (.lst ((allWays f b l.length).map wV)) S := by
  have e1 := r_need_both (d := d) (S := S) hw (sh_data l)
  rw [sh_has hl, if_pos rfl] at e1
  have e2 := r_all_ways (d := d + 3) (S := S) hw hl.len
  rw [run_eq d_ways rfl rfl rfl]
  simp [d_ways, e1, e2]
theorem r_rows {w f b : Nat} (hw : Wd w f b) (hS : okS S = true) {fs : List Fact} (h : FactsOk (f + b) fs) : run T (d + 6) .rows [wd w f b, fsV fs] S = .ok (.lst (rV (allRows w f b fs))) S := by
  have e1 := r_need_facts_ok (d := d) (S := S) hw h
  have e2 := r_all_rows (d := d + 2) (S := S) hw hS (fs := fs) (by have := h.len; omega) (vf := fsV fs) (.inl rfl)
  rw [run_eq d_rows rfl rfl rfl]
  simp [d_rows, e1, e2]
end Pw
/-! Mc5: whether blocks and ways are told rightly. -/
namespace Pw
open PySem
variable {d : Nat} {S : PSt}
/-- a loop that changes nothing but its variables' slots -/
theorem forL_same {β : Type} {f : PV → Env → PSt → R Fl} {S : PSt} (E : Option PV → Env) (enc : β → PV) : ∀ (xs : List β) (u : Option PV), (∀ x ∈ xs, ∀ u, ∃ u', f (enc x) (E u) S = .ok (.nx (E u')) S) → ∃ u', forL f [] (xs.map enc) (E u) S = .ok (.nx (E u')) S
  | [], u, _ => ⟨u, by rw [List.map_nil, fL_nil]⟩
  | x :: xs, u, h => by
    obtain ⟨u1, e1⟩ := h x List.mem_cons_self u
    obtain ⟨u2, e2⟩ := forL_same E enc xs u1 fun y hy => h y (List.mem_cons_of_mem _ hy)
    exact ⟨u2, by rw [List.map_cons, fL_cons, e1, R.bind_ok, onF_nx, e2]⟩
theorem forL_same2 {β : Type} {f : PV → Env → PSt → R Fl} {S : PSt} (E : Option PV → Option PV → Env) (enc : β → PV) : ∀ (xs : List β) (u v : Option PV), (∀ x ∈ xs, ∀ u v, ∃ u' v', f (enc x) (E u v) S = .ok (.nx (E u' v')) S) → ∃ u' v', forL f [] (xs.map enc) (E u v) S = .ok (.nx (E u' v')) S
  | [], u, v, _ => ⟨u, v, by rw [List.map_nil, fL_nil]⟩
  | x :: xs, u, v, h => by
    obtain ⟨u1, v1, e1⟩ := h x List.mem_cons_self u v
    obtain ⟨u2, v2, e2⟩ := forL_same2 E enc xs u1 v1 fun y hy => h y (List.mem_cons_of_mem _ hy)
    exact ⟨u2, v2, by rw [List.map_cons, fL_cons, e1, R.bind_ok, onF_nx, e2]⟩
/-- a loop that gathers -/
theorem flat_loop {α β : Type} {f : PV → Env → PSt → R Fl} {S : PSt} (E : List β → Option PV → Env) (enc : α → PV) (g : α → List β) (P : α → Prop) (hg : ∀ x, P x → (g x).length ≤ 10) (h : ∀ acc u x, P x → acc.length ≤ 10000 → f (enc x) (E acc u) S = .ok (.nx (E (acc ++ g x) (some (enc x)))) S) :
    ∀ (xs : List α) (acc : List β) (u : Option PV), (∀ x ∈ xs, P x) → acc.length + 10 * xs.length ≤ 10000 → ∃ u', forL f [] (xs.map enc) (E acc u) S = .ok (.nx (E (acc ++ xs.flatMap g) u')) S
  | [], acc, u, _, _ => ⟨u, by rw [List.map_nil, fL_nil, List.flatMap_nil, List.append_nil]⟩
  | x :: xs, acc, u, hp, hl => by
    have hx := hg x (hp x List.mem_cons_self)
    obtain ⟨u', e⟩ := flat_loop E enc g P hg h xs (acc ++ g x) (some (enc x)) (fun y hy => hp y (List.mem_cons_of_mem _ hy)) (by simp at hl ⊢; omega)
    exact ⟨u', by rw [List.map_cons, fL_cons, h acc u x (hp x List.mem_cons_self) (by simp at hl; omega), R.bind_ok, onF_nx, e, List.flatMap_cons, List.append_assoc]⟩
theorem bV_data (x : Nat × List Nat) : isData (bV x) = true := by
  show (true && (isDatas (iL x.2) && true)) = true
  rw [iL_data]
  rfl
theorem maps_data {α : Type} (enc : α → PV) (h : ∀ x, isData (enc x) = true) (l : List α) : isDatas (l.map enc) = true := isDatas_mem.mpr fun y hy => by
  obtain ⟨x, _, rfl⟩ := List.mem_map.mp hy
  exact h x
theorem maps_depth {α : Type} (enc : α → PV) {k : Nat} (h : ∀ x, depth (enc x) ≤ k) (l : List α) : depth (.lst (l.map enc)) ≤ k + 1 := by
  rw [depth_lst]
  have : depths (l.map enc) ≤ k := depths_le.mpr fun y hy => by
    obtain ⟨x, _, rfl⟩ := List.mem_map.mp hy
    exact h x
  omega
theorem cV_depth (c : List Nat) : depth (cV c) ≤ 1 := by
  unfold cV
  rw [depth_tup, depth_iL]
  omega
theorem bV_depth (x : Nat × List Nat) : depth (bV x) ≤ 2 := by
  unfold bV
  have := cV_depth x.2
  simp
  omega
theorem wV_data (x : List Nat × List Nat) : isData (wV x) = true := by
  show (isDatas (iL x.1) && (isDatas (iL x.2) && true)) = true
  rw [iL_data, iL_data]
  rfl
theorem wV_depth (x : List Nat × List Nat) : depth (wV x) ≤ 2 := by
  unfold wV
  have := cV_depth x.1
  have := cV_depth x.2
  simp
  omega
theorem eq_maps (S : PSt) {α : Type} (enc : α → PV) {k : Nat} (hk : k ≤ 50) (h : ∀ x, isData (enc x) = true) (hd : ∀ x, depth (enc x) ≤ k) (l : List α) : eqV S (.lst (l.map enc)) (.lst (l.map enc)) = some true :=
  eqV_refl S (maps_data enc h l) (by have := maps_depth enc hd l; omega)
theorem r_told_right {w f b : Nat} (hw : Wd w f b) (hS : okS S = true) {l : List Sh} (hl : ShOk w l) : run T (d + 8) .l_told_right [wd w f b, shV l] S = .ok (.bl true) S := by
  obtain ⟨f1, f2⟩ := parts_le (k := 0) hw
  obtain ⟨b1, b2⟩ := parts_le (k := 1) hw
  simp only [parts, if_pos, if_neg (show ¬ (1 = 0) by decide)] at f1 f2 b1 b2
  have z0 : ((f : Int) - 1) = ((f - 1 : Nat) : Int) := by omega
  have z1 : ((b : Int) - 1) = ((b - 1 : Nat) : Int) := by omega
  have c0 := r_l_cuts (d := d + 6) (S := S) hl.len (most := f - 1) (by omega)
  have c1 := r_l_cuts (d := d + 6) (S := S) hl.len (most := b - 1) (by omega)
  have y0 := r_l_cuts (d := d + 6) (S := S) hl.len (most := f) (by omega)
  have y1 := r_l_cuts (d := d + 6) (S := S) hl.len (most := b) (by omega)
  have sr : ∀ L : List (List Nat), srcL S (.lst (csV L)) = some (csV L, []) := fun L => rfl
  -- the blocks of a rail
  have cc : ∀ (k : Nat) (u : PV) (v6 v7 : Option PV) (L : List (List Nat)), compL (turn1 (.nm 9) [9] (evT (run T (d + 7)) (.cst (.bl true))) (ev (run T (d + 7)) (.tup (.cons (.var 2) (.cons (.var 9) .nil)))) [some (wd w f b), some (shV l), some (.int (k : Int)), some u, none, some (.int (l.length : Int)), v6, v7, none, none, none]) [] (csV L) S = .ok (L.map fun c => bV (k, c)) S := fun k u v6 v7 L => compL_enc cV (fun c => bV (k, c)) L fun c _ => by simp [turn1, bV]
  have cc0 : ∀ (u : PV) (v6 v7 : Option PV) (L : List (List Nat)), compL (turn1 (.nm 9) [9] (evT (run T (d + 7)) (.cst (.bl true))) (ev (run T (d + 7)) (.tup (.cons (.var 2) (.cons (.var 9) .nil)))) [some (wd w f b), some (shV l), some (.int 0), some u, none, some (.int (l.length : Int)), v6, v7, none, none, none]) [] (csV L) S = .ok (L.map fun c => bV (0, c)) S := cc 0
  have cc1 : ∀ (u : PV) (v6 v7 : Option PV) (L : List (List Nat)), compL (turn1 (.nm 9) [9] (evT (run T (d + 7)) (.cst (.bl true))) (ev (run T (d + 7)) (.tup (.cons (.var 2) (.cons (.var 9) .nil)))) [some (wd w f b), some (shV l), some (.int 1), some u, none, some (.int (l.length : Int)), v6, v7, none, none, none]) [] (csV L) S = .ok (L.map fun c => bV (1, c)) S := cc 1
  have n0 := cutsF_le hl.len (k := f - 1) (by omega)
  have n1 := cutsF_le hl.len (k := b - 1) (by omega)
  have p0 := capL_le (S := S) (vs := (cutsF l.length (f - 1)).map fun c => bV (0, c)) (by rw [List.length_map]; omega)
  have p1 := capL_le (S := S) (vs := (cutsF l.length (b - 1)).map fun c => bV (1, c)) (by rw [List.length_map]; omega)
  have k0 : (cutsF l.length (f - 1)).length ≤ LIM := lim_n (by omega)
  have k2 : (cutsF l.length (f - 1)).length + (cutsF l.length (b - 1)).length ≤ LIM := lim_n (by omega)
  -- the ways of a rail
  have ww : ∀ (k : Nat) (hk : k = 0 ∨ k = 1) (u : PV) (v6 v7 : Option PV), ∃ u', forL (turnF (run T (d + 7)) (.nm 7) (.cons (.ifs (.cmp .ne (.call .way_rows (.cons (.var 0) (.cons (.var 1) (.cons (.var 2) (.cons (.var 7) .nil))))) (.call .l_way_lines (.cons (.var 0) (.cons (.var 1) (.cons (.var 2) (.cons (.var 7) .nil)))))) (.cons (.ret (.cst (.bl false))) .nil) .nil) .nil)) [] (csV (cutsF l.length (parts f b k))) [some (wd w f b), some (shV l), some (.int (k : Int)), some u, none, some (.int (l.length : Int)), v6, v7, none, none, none] S = .ok (.nx [some (wd w f b), some (shV l), some (.int (k : Int)), some u, none, some (.int (l.length : Int)), v6, u', none, none, none]) S := fun k hk u v6 v7 =>
    forL_same (fun x => [some (wd w f b), some (shV l), some (.int (k : Int)), some u, none, some (.int (l.length : Int)), v6, x, none, none, none]) cV _ v7 fun c hc x => by
      have e1 := r_way_rows (d := d) (S := S) hw hS hl hk hc
      have e2 := r_l_way_lines (d := d + 5) (S := S) hw hS hl.len hk (c := c) (by have := (cut_mem hl.len (by have := (parts_le (k := k) hw).2; omega) hc).2; omega)
      refine ⟨some (cV c), ?_⟩
      simp [turnF, e1, e2, eq_rV]
  have w0 : ∀ (u : PV) (v6 v7 : Option PV), ∃ u', forL (turnF (run T (d + 7)) (.nm 7) (.cons (.ifs (.cmp .ne (.call .way_rows (.cons (.var 0) (.cons (.var 1) (.cons (.var 2) (.cons (.var 7) .nil))))) (.call .l_way_lines (.cons (.var 0) (.cons (.var 1) (.cons (.var 2) (.cons (.var 7) .nil)))))) (.cons (.ret (.cst (.bl false))) .nil) .nil) .nil)) [] (csV (cutsF l.length f)) [some (wd w f b), some (shV l), some (.int 0), some u, none, some (.int (l.length : Int)), v6, v7, none, none, none] S = .ok (.nx [some (wd w f b), some (shV l), some (.int 0), some u, none, some (.int (l.length : Int)), v6, u', none, none, none]) S := ww 0 (.inl rfl)
  have w1 : ∀ (u : PV) (v6 v7 : Option PV), ∃ u', forL (turnF (run T (d + 7)) (.nm 7) (.cons (.ifs (.cmp .ne (.call .way_rows (.cons (.var 0) (.cons (.var 1) (.cons (.var 2) (.cons (.var 7) .nil))))) (.call .l_way_lines (.cons (.var 0) (.cons (.var 1) (.cons (.var 2) (.cons (.var 7) .nil)))))) (.cons (.ret (.cst (.bl false))) .nil) .nil) .nil)) [] (csV (cutsF l.length b)) [some (wd w f b), some (shV l), some (.int 1), some u, none, some (.int (l.length : Int)), v6, v7, none, none, none] S = .ok (.nx [some (wd w f b), some (shV l), some (.int 1), some u, none, some (.int (l.length : Int)), v6, u', none, none, none]) S := ww 1 (.inr rfl)
  obtain ⟨u1, q0⟩ := w0 (.lst ((cutsF l.length (f - 1)).map fun c => bV (0, c))) (some (.int (f : Int))) none
  obtain ⟨u2, q1⟩ := w1 (.lst ((cutsF l.length (f - 1)).map (fun c => bV (0, c)) ++ (cutsF l.length (b - 1)).map fun c => bV (1, c))) (some (.int (b : Int))) u1
  have eb := r_blocks (d := d + 1) (S := S) hw hl
  have eA : (allBlocks f b l.length).map bV = (cutsF l.length (f - 1)).map (fun c => bV (0, c)) ++ (cutsF l.length (b - 1)).map fun c => bV (1, c) := by simp [allBlocks, Function.comp_def]
  have qb := eq_maps S bV (k := 2) (by omega) bV_data bV_depth (allBlocks f b l.length)
  -- the blocks' rows
  obtain ⟨v1, v2, qr⟩ := forL_same2 (S := S) (f := turnF (run T (d + 7)) (.tp [.nm 2, .nm 8]) (.cons (.ifs (.cmp .ne (.call .block_rows (.cons (.var 0) (.cons (.var 1) (.cons (.var 2) (.cons (.var 8) .nil))))) (.call .l_block_lines (.cons (.var 0) (.cons (.var 1) (.cons (.var 2) (.cons (.var 8) .nil)))))) (.cons (.ret (.cst (.bl false))) .nil) .nil) .nil)) (fun u v => [some (wd w f b), some (shV l), u, some (.lst ((allBlocks f b l.length).map bV)), none, some (.int (l.length : Int)), some (.int (b : Int)), u2, v, none, none]) bV (allBlocks f b l.length) (some (.int 1)) none fun x hx u v => by
    obtain ⟨k, c⟩ := x
    have hm : (k = 0 ∨ k = 1) ∧ c ∈ cutsF l.length (parts f b k - 1) := by
      unfold allBlocks at hx
      rcases List.mem_append.mp hx with z | z
      · obtain ⟨c', hc', e⟩ := List.mem_map.mp z
        cases e
        exact ⟨.inl rfl, hc'⟩
      · obtain ⟨c', hc', e⟩ := List.mem_map.mp z
        cases e
        exact ⟨.inr rfl, hc'⟩
    obtain ⟨hk, hc⟩ := hm
    have e1 := r_block_rows (d := d) (S := S) hw hS hl hk hc
    have e2 := r_l_block_lines (d := d + 5) (S := S) hw hS hl.len hk (c := c) (by have := (cut_mem hl.len (by have := (parts_le (k := k) hw).2; omega) hc).2; omega)
    refine ⟨some (.int (k : Int)), some (cV c), ?_⟩
    simp [turnF, bV, e1, e2, eq_rV]
  -- all ways
  have wi : ∀ (x : List Nat) (u : PV) (v2 v6 v7 v8 : Option PV), compL (turn1 (.nm 10) [10] (evT (run T (d + 7)) (.cst (.bl true))) (ev (run T (d + 7)) (.tup (.cons (.var 4) (.cons (.var 10) .nil)))) [some (wd w f b), some (shV l), v2, some u, some (cV x), some (.int (l.length : Int)), v6, v7, v8, none, none]) [] (csV (cutsF l.length b)) S = .ok ((cutsF l.length b).map fun y => wV (x, y)) S := fun x u v2 v6 v7 v8 => compL_enc cV (fun y => wV (x, y)) _ fun y _ => by simp [turn1, wV]
  have m0 := cutsF_le hl.len (k := f) (by omega)
  have m1 := cutsF_le hl.len (k := b) (by omega)
  have pw : ∀ x, capL ((cutsF l.length b).map fun y => wV (x, y)) S = .ok ((cutsF l.length b).map fun y => wV (x, y)) S := fun x => capL_le (by rw [List.length_map]; omega)
  obtain ⟨u4, qw⟩ := flat_loop (S := S) (f := turnF (run T (d + 7)) (.nm 4) (.cons (.asg (.nm 3) (.bin .add (.var 3) (.fl (.comp [10] (.nm 10) (.val (.call .l_cuts (.cons (.var 5) (.cons (.idx (.var 0) (.cst (.int 2))) .nil)))) (.cst (.bl true)) (.tup (.cons (.var 4) (.cons (.var 10) .nil))))))) .nil)) (fun (a : List (List Nat × List Nat)) u => [some (wd w f b), some (shV l), v1, some (.lst (a.map wV)), u, some (.int (l.length : Int)), some (.int (b : Int)), u2, v2, none, none]) cV (fun x => (cutsF l.length b).map fun y => (x, y)) (fun _ => True) (fun x _ => by rw [List.length_map]; omega)
    (fun a u x _ ha => by
      have lt : a.length + (cutsF l.length b).length ≤ LIM := lim_n (by omega)
      simp [turnF, wd2, y1, sr, wi, pw, lt, Function.comp_def]) (cutsF l.length f) [] none (fun _ _ => True.intro) (by simp; omega)
  have eW : ([] ++ (cutsF l.length f).flatMap fun x => (cutsF l.length b).map fun y => (x, y)) = allWays f b l.length := rfl
  rw [eW] at qw
  have qw : forL _ [] (csV (cutsF l.length f)) [some (wd w f b), some (shV l), v1, some (.lst []), none, some (.int (l.length : Int)), some (.int (b : Int)), u2, v2, none, none] S = _ := qw
  have ew := r_ways (d := d + 1) (S := S) hw hl
  have qv := eq_maps S wV (k := 2) (by omega) wV_data wV_depth (allWays f b l.length)
  rw [← eA] at q1
  rw [run_eq d_l_told_right rfl rfl rfl]
  simp [d_l_told_right, shV_len, fL_cons, fL_nil, turnF, wd1, wd2, z0, z1, c0, c1, y0, y1, sr, cc0, cc1, p0, p1, k0, k2, q0, ← eA, q1, eb, qb, qr, qw, ew, qv]
end Pw
/-! Mc6: law k03: what was worked out by hand. -/
namespace Pw
open PySem
variable {d : Nat} {S : PSt}
theorem wd_hand : Wd 10 2 1 := ⟨by decide, by decide, by decide, by decide, by decide, by decide⟩
theorem far_ok : ShOk 10 [⟨0, 2⟩, ⟨8, 10⟩] := ⟨.inr rfl, fun s hs => by
  simp at hs
  rcases hs with rfl | rfl <;> decide, fun s t q => by
  cases q
  decide⟩
theorem mid_ok : ShOk 10 [⟨4, 6⟩] := ⟨.inl rfl, fun s hs => by
  simp at hs
  subst hs
  decide, fun s t q => by cases q⟩
theorem fact_hand : FactsOk 3 [.sum [2] 5 (some 6)] := ⟨by decide, fun fa h => by
  simp at h
  subst h
  exact ⟨⟨by decide, by decide, by decide⟩, by decide, by decide, ⟨fun i q => by cases q; decide⟩⟩⟩
theorem r_by_hand (hS : okS S = true) : run T (d + 9) .l_by_hand [] S = .ok (.bl true) S := by
  have a1 := r_rows (d := d + 2) (S := S) wd_hand hS fact_hand
  have a2 := r_blocks (d := d + 2) (S := S) wd_hand far_ok
  have a3 := r_ways (d := d + 2) (S := S) wd_hand far_ok
  have a4 := r_block_rows (d := d + 1) (S := S) wd_hand hS mid_ok (k := 0) (.inl rfl) (c := [1]) (by decide)
  have a5 := r_way_rows (d := d + 1) (S := S) wd_hand hS far_ok (k := 0) (.inl rfl) (c := [0, 1]) (by decide)
  have a6 := r_block_rows (d := d + 1) (S := S) wd_hand hS far_ok (k := 0) (.inl rfl) (c := [0, 1]) (by decide)
  have a7 := r_need_cut (d := d + 1) (S := S) wd_hand mid_ok (less := 1) (by omega) (rv := .int 0) rfl (N := 0) (cv := cV [2]) (by omega) (by decide +kernel) (by decide)
  have hc : cutOk 2 1 [(⟨4, 6⟩ : Sh)].length 1 (.int 0) (cV [2]) = false := by decide +kernel
  rw [hc, if_neg Bool.false_ne_true] at a7
  have hw0 : wd 10 2 1 = .tup [.int 10, .int 2, .int 1] := rfl
  have hf0 : fsV [.sum [2] 5 (some 6)] = .tup [.tup [.str "sum", .tup [.int 2], .int 5, .int 6]] := rfl
  have hs0 : shV [⟨0, 2⟩, ⟨8, 10⟩] = .tup [.tup [.int 0, .int 2], .tup [.int 8, .int 10]] := rfl
  have hs1 : shV [⟨4, 6⟩] = .tup [.tup [.int 4, .int 6]] := rfl
  have hc1 : cV [1] = .tup [.int 1] := rfl
  have hc2 : cV [0, 1] = .tup [.int 0, .int 1] := rfl
  have hc3 : cV [2] = .tup [.int 2] := rfl
  have hk : ((0 : Nat) : Int) = 0 := rfl
  have hk1 : ((1 : Nat) : Int) = 1 := rfl
  rw [hw0] at a1 a2 a3 a4 a5 a6 a7
  rw [hf0] at a1
  rw [hs0] at a2 a3 a5 a6
  rw [hs1] at a4 a7
  rw [hc1, hk] at a4
  rw [hc2, hk] at a5 a6
  rw [hc3, hk1] at a7
  have a1 : run T (d + 8) .rows _ S = _ := a1
  have a2 : run T (d + 8) .blocks _ S = _ := a2
  have a3 : run T (d + 8) .ways _ S = _ := a3
  have a4 : run T (d + 8) .block_rows _ S = _ := a4
  have a5 : run T (d + 8) .way_rows _ S = _ := a5
  have a6 : run T (d + 8) .block_rows _ S = _ := a6
  have a7 : run T (d + 7) .need_cut _ S = _ := a7
  have a7 : run T (d + 8) .block_rows [.tup [.int 10, .int 2, .int 1], .tup [.tup [.int 4, .int 6]], .int 0, .tup [.int 2]] S = .exc .InvalidNumber [] S := by
    rw [run_eq d_block_rows rfl rfl rfl]
    simp [d_block_rows, a7]
  have hl2 : [(⟨0, 2⟩ : Sh), ⟨8, 10⟩].length = 2 := rfl
  rw [hl2] at a2 a3
  have b1 : cutP (rV (allRows 10 2 1 [.sum [2] 5 (some 6)])) (some 4) none = [.tup [.int 10, .int 0, .int 0, .int (-1), .bl false], .tup [.int (-5), .int 0, .int 0, .int 1, .bl false], .tup [.int 6, .int 0, .int 0, .int (-1), .bl false]] := rfl
  have b2 : (allBlocks 2 1 2).map bV = [.tup [.int 0, .tup [.int 0, .int 0]], .tup [.int 0, .tup [.int 0, .int 1]], .tup [.int 0, .tup [.int 1, .int 1]], .tup [.int 1, .tup [.int 0, .int 0]]] := rfl
  have b3 : (allWays 2 1 2).length = 18 := by decide
  have b4 : rV (rowsOfBlock 10 2 1 [⟨4, 6⟩] 0 [1]) = [.tup [.int (-4), .int 1, .int 1, .int 0, .bl true], .tup [.int (-4), .int 0, .int 1, .int 0, .bl true]] := rfl
  have b5 : rV (rowsOfWay 10 2 1 [⟨0, 2⟩, ⟨8, 10⟩] 0 [0, 1]) = [.tup [.int 0, .int 0, .int 0, .int 0, .bl false], .tup [.int 6, .int (-1), .int 0, .int 0, .bl false], .tup [.int 0, .int 0, .int (-1), .int 0, .bl false]] := rfl
  have b6 : rV (rowsOfBlock 10 2 1 [⟨0, 2⟩, ⟨8, 10⟩] 0 [0, 1]) = [.tup [.int 0, .int 1, .int 0, .int 0, .bl true], .tup [.int (-6), .int 1, .int 1, .int 0, .bl true], .tup [.int 0, .int 0, .int 1, .int 0, .bl true]] := rfl
  rw [b2] at a2
  rw [b4] at a4
  rw [b5] at a5
  rw [b6] at a6
  have q : ∀ xs : List PV, isDatas xs = true → depth (.lst xs) ≤ 60 → eqV S (.lst xs) (.lst xs) = some true := fun xs h1 h2 => eqV_refl S h1 h2
  have q1 := q [.tup [.int 10, .int 0, .int 0, .int (-1), .bl false], .tup [.int (-5), .int 0, .int 0, .int 1, .bl false], .tup [.int 6, .int 0, .int 0, .int (-1), .bl false]] rfl (by decide)
  have q2 := q [.tup [.int 0, .tup [.int 0, .int 0]], .tup [.int 0, .tup [.int 0, .int 1]], .tup [.int 0, .tup [.int 1, .int 1]], .tup [.int 1, .tup [.int 0, .int 0]]] rfl (by decide)
  have q4 := q [.tup [.int (-4), .int 1, .int 1, .int 0, .bl true], .tup [.int (-4), .int 0, .int 1, .int 0, .bl true]] rfl (by decide)
  have q5 := q [.tup [.int 0, .int 0, .int 0, .int 0, .bl false], .tup [.int 6, .int (-1), .int 0, .int 0, .bl false], .tup [.int 0, .int 0, .int (-1), .int 0, .bl false]] rfl (by decide)
  have q6 := q [.tup [.int 0, .int 1, .int 0, .int 0, .bl true], .tup [.int (-6), .int 1, .int 1, .int 0, .bl true], .tup [.int 0, .int 0, .int 1, .int 0, .bl true]] rfl (by decide)
  rw [run_eq d_l_by_hand rfl rfl rfl]
  simp [d_l_by_hand, a1, b1, q1, a2, q2, a3, b3, eqI, a4, q4, a5, q5, a6, q6, a7, eqS, XC.told]
end Pw
/-! Mc7: law k03 holds of the interpreter. -/
namespace Pw
open PySem
variable {d : Nat} {S : PSt}
def turnB3 : PSs := (.cons (.asg (.nm 5) (.call .l_wardrobe (.cons (.var 2) (.cons (.cst (.int 6)) .nil))))
    (.cons (.asg (.nm 6) (.blt .tuple (.cons (.fl (.comp [9] (.nm 9) (.rng (.call .l_under (.cons (.var 2) (.cons (.cst (.int 6)) .nil)))) (.cst (.bl true)) (.call .l_fact (.cons (.var 2) (.cons (.var 5) .nil))))) .nil)))
    (.cons (.ifs (.cmp .ne (.call .rows (.cons (.var 5) (.cons (.var 6) .nil))) (.call .l_lines (.cons (.var 5) (.cons (.var 6) .nil)))) (.cons (.ret (.cst (.bl false)))
    .nil) .nil)
    (.cons (.ifs (.not (.call .l_told_right (.cons (.var 5) (.cons (.call .l_shelves (.cons (.var 2) (.cons (.var 5) .nil))) .nil)))) (.cons (.ret (.cst (.bl false)))
    .nil) .nil)
    .nil))))
def oddB3 : PSs := (.cons (.ifs (.cmp .ne (.fl (.comp [10] (.nm 10) (.val (.tup (.cons (.fn .block_rows) (.cons (.fn .way_rows) .nil)))) (.cst (.bl true)) (.err (.callv (.var 10) (.cons (.var 5) (.cons (.tup (.cons (.tup (.cons (.cst (.int 0)) (.cons (.cst (.int 1)) .nil))) .nil)) (.cons (.var 7) (.cons (.var 8) .nil)))))))) (.bin .mul (.fl (.disp (.cons (.cst (.str "number value")) .nil))) (.cst (.int 2)))) (.cons (.ret (.cst (.bl false)))
    .nil) .nil)
    .nil)
def outB3 : PSs := (.cons (.asg (.nm 2) (.call .l_vat (.cons (.var 0) (.cons (.var 1) .nil))))
    (.cons (.for_ (.nm 3) (.rng (.cst (.int 3))) turnB3)
    (.cons (.for_ (.tp [(.nm 7), (.nm 8)]) (.val (.fl (.disp (.cons (.tup (.cons (.cst (.int 2)) (.cons (.tup (.cons (.cst (.int 0)) .nil)) .nil))) (.cons (.tup (.cons (.cst .non) (.cons (.cst .non) .nil))) (.cons (.tup (.cons (.cst (.bl true)) (.cons (.tup (.cons (.cst (.int 0)) .nil)) .nil))) (.cons (.tup (.cons (.cst (.int 0)) (.cons (.cst .non) .nil))) (.cons (.tup (.cons (.cst (.int 0)) (.cons (.tup (.cons (.cst (.int 9)) .nil)) .nil))) (.cons (.tup (.cons (.cst (.int 1)) (.cons (.tup .nil) .nil))) (.cons (.tup (.cons (.cst (.int 0)) (.cons (.fl (.disp (.cons (.cst (.int 0)) .nil))) .nil))) (.cons (.tup (.cons (.cst (.int 0)) (.cons (.tup (.cons (.cst (.int 0)) (.cons (.cst (.int 0)) (.cons (.cst (.int 0)) .nil)))) .nil))) (.cons (.tup (.cons (.cst (.int 0)) (.cons (.tup (.cons (.neg (.cst (.int 1))) .nil)) .nil))) .nil)))))))))))) oddB3)
    (.cons (.asg (.nm 4) (.fl (.comp [10] (.nm 10) (.val (.tup (.cons (.fn .blocks) (.cons (.fn .ways) .nil)))) (.cst (.bl true)) (.err (.callv (.var 10) (.cons (.var 5) (.cons (.cst .non) .nil)))))))
    (.cons (.ifs (.cmp .ne (.bin .add (.var 4) (.fl (.disp (.cons (.err (.call .rows (.cons (.var 5) (.cons (.cst .non) .nil)))) .nil)))) (.bin .add (.bin .mul (.fl (.disp (.cons (.cst (.str "shelves value")) .nil))) (.cst (.int 2))) (.fl (.disp (.cons (.cst (.str "facts value")) .nil))))) (.cons (.ret (.cst (.bl false)))
    .nil) .nil)
    .nil)))))
theorem law3_body : d_law_k03.body = .cons (.for_ (.nm 1) (.rng (.blt .max2 (.cons (.cst (.int 6)) (.cons (.blt .min2 (.cons (.cst (.int 14)) (.cons (.blt .len (.cons (.var 0) .nil)) .nil))) .nil)))) outB3) (.cons (.ret (.call .l_by_hand .nil)) .nil) := rfl
/-- so many facts -/
theorem r_facts {w f b n m : Nat} (hw : Wd w f b) (v : Vat n S) {ρ : Env} {i j k : Nat} (hi : ∀ u, (ρ.set k u)[i]?.join = some (.ref n)) (hj : ∀ u, (ρ.set k u)[j]?.join = some (wd w f b)) (hl : k < ρ.length) : ∃ (fs : List Fact) (S' : PSt), compL (turn1 (.nm k) [k] (evT (run T (d + 3)) (.cst (.bl true))) (ev (run T (d + 3)) (.call .l_fact (.cons (.var i) (.cons (.var j) .nil)))) ρ) [] (rngL 0 m) S = .ok (fs.map Fact.v) S' ∧ fs.length = m ∧ (∀ x ∈ fs, x.Ok (f + b)) ∧ Dr n S S' := by
  obtain ⟨r, S', e, k1, k2, k3, k4⟩ := compL_inv (f := turn1 (.nm k) [k] (evT (run T (d + 3)) (.cst (.bl true))) (ev (run T (d + 3)) (.call .l_fact (.cons (.var i) (.cons (.var j) .nil)))) ρ)
    (I := fun xs o S2 => o.length + xs.length = m ∧ (∃ ms : List Fact, o = ms.map Fact.v ∧ ∀ x ∈ ms, x.Ok (f + b)) ∧ Vat n S2 ∧ Dr n S S2) (fun x xs o S2 ⟨c1, ⟨ms, c2, c3⟩, c4, c5⟩ => by
      obtain ⟨mv, S3, e3, ok3, d3⟩ := r_l_fact (d := d) hw c4
      refine ⟨[mv.v], S3, ?_, by simp at c1 ⊢; omega, ⟨ms ++ [mv], by rw [c2]; simp, fun y hy => ?_⟩, d3.vat c4, c5.trans d3⟩
      · unfold turn1
        have : k < (wipeE ρ [k]).length := by simpa using hl
        rw [bindT_nm, if_pos this]
        simp only [wipeE_cons, wipeE_nil, List.set_set, evT_cst, truthy_bl, R.ofO_some, R.bind_ok, if_true, ev_call, evs_cons, evs_nil, ev_var, hi, hj, e3, noX_ok]
      · rcases List.mem_append.mp hy with z | z
        · exact c3 y z
        · rw [List.mem_singleton.mp z]; exact ok3) (rngL 0 m) [] S ⟨by simp [rngL], ⟨[], rfl, by simp⟩, v, v.dr⟩
  obtain ⟨ms, c2, c3⟩ := k2
  refine ⟨ms, S', ?_, ?_, c3, k4⟩
  · rw [e]
    simp at c2
    rw [c2]
  · simp at k1 c2
    rw [c2] at k1
    simpa using k1
theorem r_turn3 {n : Nat} (v : Vat n S) (hS : okS S = true) {o0 o1 o3 o4 o5 o6 o7 o8 o9 o10 : Option PV} :
    ∃ (w f b : Nat) (o6' : Option PV) (S' : PSt), execs (run T (d + 10)) turnB3 [o0, o1, some (.ref n), o3, o4, o5, o6, o7, o8, o9, o10] S =
      .ok (.nx [o0, o1, some (.ref n), o3, o4, some (wd w f b), o6', o7, o8, o9, o10]) S' ∧ 4 ≤ w ∧ Wd w f b ∧ Dr n S S' := by
  obtain ⟨w, f, b, S1, e1, w4, _, hw, d1⟩ := r_wardrobe (d := d + 8) v
  have v1 := d1.vat v
  obtain ⟨m, S2, e2, g1, g2, d2⟩ := r_under (d := d + 9) (many := 6) v1 (by omega) (by omega)
  obtain ⟨m, rfl⟩ := Int.eq_ofNat_of_zero_le g1
  have v2 := d2.vat v1
  obtain ⟨fs, S3, e3, l3, ok3, d3⟩ := r_facts (d := d + 7) hw (m := m) v2 (ρ := [o0, o1, some (.ref n), o3, o4, some (wd w f b), o6, o7, o8, o9, o10]) (i := 2) (j := 5) (k := 9) (fun u => rfl) (fun u => rfl) (by simp)
  have v3 := d3.vat v2
  have dd := d1.trans (d2.trans d3)
  have hS3 := dd.ok hS
  have hfs : FactsOk (f + b) fs := ⟨by omega, ok3⟩
  have e4 := r_rows (d := d + 4) (S := S3) hw hS3 hfs
  have e5 := r_l_lines (d := d + 7) (S := S3) hw hS3 (fs := fs) (by omega) (vf := fsV fs) (.inl rfl)
  have q4 := eq_rV S3 (allRows w f b fs)
  obtain ⟨l, S4, e6, hl, d4⟩ := r_l_shelves (d := d + 8) (w := w) (f := f) (b := b) hw.w1 hw.w2 v3
  have hS4 := d4.ok hS3
  have e7 := r_told_right (d := d + 2) (S := S4) hw hS4 hl
  have s1 : small62 (m : Int) = true := small_i (by omega) (by omega)
  have c3 := capL_le (S := S3) (vs := fs.map Fact.v) (by rw [List.length_map]; omega)
  have ft : PV.tup (fs.map Fact.v) = fsV fs := rfl
  have e1 : run T (d + 10) .l_wardrobe [.ref n, .int 6] S = .ok (wd w f b) S1 := e1
  have e2 : run T (d + 10) .l_under [.ref n, .int 6] S1 = .ok (.int (m : Int)) S2 := e2
  refine ⟨w, f, b, some (fsV fs), S4, ?_, w4, hw, dd.trans d4⟩
  simp [turnB3, e1, e2, s1, e3, c3, ft, e4, e5, q4, e6, e7]
theorem sh1_ok {w : Nat} (h : 1 ≤ w) : ShOk w [⟨0, 1⟩] := ⟨.inl rfl, fun s hs => by
  simp at hs
  subst hs
  refine ⟨?_, ?_, ?_⟩
  · show (0 : Int) ≤ 0; omega
  · show (0 : Int) < 1; omega
  · show (1 : Int) ≤ w; omega, fun s t q => by cases q⟩
theorem bad_cut {w f b : Nat} (hw : Wd w f b) {rv cv : PV} (hr : isData rv = true) (hc : nice 0 cv = true) (hd : depth cv ≤ 60) (h1 : cutOk f b 1 1 rv cv = false) (h0 : cutOk f b 1 0 rv cv = false) :
    run T (d + 7) .block_rows [wd w f b, .tup [.tup [.int 0, .int 1]], rv, cv] S = .exc .InvalidNumber [] S ∧ run T (d + 7) .way_rows [wd w f b, .tup [.tup [.int 0, .int 1]], rv, cv] S = .exc .InvalidNumber [] S := by
  have e1 := r_need_cut (d := d) (S := S) hw (sh1_ok hw.w1) (less := 1) (by omega) hr (N := 0) (by omega) hc hd
  have e0 := r_need_cut (d := d) (S := S) hw (sh1_ok hw.w1) (less := 0) (by omega) hr (N := 0) (by omega) hc hd
  have hl : [(⟨0, 1⟩ : Sh)].length = 1 := rfl
  rw [hl, h1, if_neg Bool.false_ne_true] at e1
  rw [hl, h0, if_neg Bool.false_ne_true] at e0
  have e1 : run T (d + 6) .need_cut [wd w f b, .tup [.tup [.int 0, .int 1]], rv, cv, .int 1] S = _ := e1
  have e0 : run T (d + 6) .need_cut [wd w f b, .tup [.tup [.int 0, .int 1]], rv, cv, .int 0] S = _ := e0
  constructor
  · rw [run_eq d_block_rows rfl rfl rfl]
    simp [d_block_rows, e1]
  · rw [run_eq d_way_rows rfl rfl rfl]
    simp [d_way_rows, e0]
theorem odd_turn {w f b : Nat} (hw : Wd w f b) {rv cv : PV} (hr : isData rv = true) (hc : nice 0 cv = true) (hd : depth cv ≤ 60) (h1 : cutOk f b 1 1 rv cv = false) (h0 : cutOk f b 1 0 rv cv = false) {o0 o1 o2 o3 o4 o6 : Option PV} (o7 o8 o9 : Option PV) :
    turnF (run T (d + 10)) (.tp [.nm 7, .nm 8]) oddB3 (.tup [rv, cv]) [o0, o1, o2, o3, o4, some (wd w f b), o6, o7, o8, o9, none] S = .ok (.nx [o0, o1, o2, o3, o4, some (wd w f b), o6, some rv, some cv, o9, none]) S := by
  obtain ⟨e1, e0⟩ := bad_cut (d := d + 3) (S := S) hw hr hc hd h1 h0
  have k1 : 2 ≤ LIM := by decide
  have m2 := mul_rep S (.str "number value") (i := 2) (n := 2) rfl (by omega)
  have q := eqV_refl S (v := .lst (List.replicate 2 (.str "number value"))) rfl (by decide)
  simp [List.replicate] at m2 q
  simp [turnF, oddB3, cL_cons, cL_nil, turn1, e1, e0, XC.told, capL, k1, m2, q]

theorem cutOk_0 (f b p less : Nat) (cv : PV) : cutOk f b p less (.int 0) cv = cutIn p (parts f b 0 - less) cv := cutOk_int (k := 0) (by omega) cv
theorem cutOk_1 (f b p less : Nat) (cv : PV) : cutOk f b p less (.int 1) cv = cutIn p (parts f b 1 - less) cv := cutOk_int (k := 1) (by omega) cv
def notIn (c : List Nat) : Bool := (List.range 4).all fun most => !decide (c ∈ cutsF 1 most)
theorem not_in {c : List Nat} (h : notIn c = true) {M : Nat} (hM : M ≤ 3) : cutIn 1 M (cV c) = false := by
  have := List.all_eq_true.mp h M (List.mem_range.mpr (by omega))
  show ((iL c).all (fun x => isWhole x 0 (M : Int)) && inV (cV c) (csV (cutsF 1 M))) = false
  rw [inV_cs]
  simp at this
  simp [this]
theorem r_out3 {ns : List Int} {k : Nat} (hk : k < 1000) (hS : okS S = true) {o2 o3 o4 o5 o6 o7 o8 o9 : Option PV} :
    ∃ (o2' o3' o4' o5' o6' o7' o8' : Option PV) (S' : PSt), execs (run T (d + 10)) outB3 [some (.scr ns), some (.int (k : Int)), o2, o3, o4, o5, o6, o7, o8, o9, none] S =
      .ok (.nx [some (.scr ns), some (.int (k : Int)), o2', o3', o4', o5', o6', o7', o8', o9, none]) S' ∧ okS S' = true := by
  obtain ⟨S1, e1, v1, x1⟩ := r_vat (d := d + 9) (ns := ns) (S := S) hk
  have hS1 := vat_ok hS v1 x1
  have e1 : run T (d + 10) .l_vat [.scr ns, .int (k : Int)] S = .ok (.ref S.length) S1 := e1
  obtain ⟨ρ3, S3, e3, i3⟩ := forL_inv (f := turnF (run T (d + 10)) (.nm 3) turnB3) (fun xs ρ S3 => ∃ p3 p5 p6, ρ = [some (.scr ns), some (.int (k : Int)), some (.ref S.length), p3, o4, p5, p6, o7, o8, o9, none] ∧ (xs.length = 3 ∨ ∃ w f b : Nat, 4 ≤ w ∧ Wd w f b ∧ p5 = some (wd w f b)) ∧ Vat S.length S3 ∧ okS S3 = true) (fun x xs ρ S3 ⟨p3, p5, p6, eρ, _, v3, s3⟩ => by
    subst eρ
    obtain ⟨w, f, b, q6, S4, e4, g0, g1, d4⟩ := r_turn3 (d := d) v3 s3 (o0 := some (.scr ns)) (o1 := some (.int (k : Int))) (o3 := some x) (o4 := o4) (o5 := p5) (o6 := p6) (o7 := o7) (o8 := o8) (o9 := o9) (o10 := none)
    refine ⟨[some (.scr ns), some (.int (k : Int)), some (.ref S.length), some x, o4, some (wd w f b), q6, o7, o8, o9, none], S4, ?_, some x, some (wd w f b), q6, rfl, .inr ⟨w, f, b, g0, g1, rfl⟩, d4.vat v3, d4.ok s3⟩
    unfold turnF
    simp [e4]) (rngL 0 3) [some (.scr ns), some (.int (k : Int)), some (.ref S.length), o3, o4, o5, o6, o7, o8, o9, none] S1 ⟨o3, o5, o6, rfl, .inl rfl, v1, hS1⟩
  obtain ⟨p3, p5, p6, eρ, h9, v3, s3⟩ := i3
  subst eρ
  obtain ⟨w, f, b, w4, hw, rfl⟩ : ∃ w f b : Nat, 4 ≤ w ∧ Wd w f b ∧ p5 = some (wd w f b) := by
    rcases h9 with z | z
    · cases z
    · exact z
  have hf := hw.f2
  have hb := hw.b2
  have hf1 := hw.f1
  have hb1 := hw.b1
  have sm3 : small62 3 = true := small_i (by decide) (by decide)
  have pf0 : parts f b 0 = f := rfl
  have pf1 : parts f b 1 = b := rfl
  have w9 : ∀ M : Nat, M ≤ 3 → cutIn 1 M (.tup [.int 9]) = false := fun M h => not_in (c := [9]) (by decide) h
  have w0 : ∀ M : Nat, M ≤ 3 → cutIn 1 M (.tup []) = false := fun M h => not_in (c := []) (by decide) h
  have w3 : ∀ M : Nat, M ≤ 3 → cutIn 1 M (.tup [.int 0, .int 0, .int 0]) = false := fun M h => not_in (c := [0, 0, 0]) (by decide) h
  have wm : ∀ M : Nat, cutIn 1 M (.tup [.int (-1)]) = false := fun M => by
    show ([PV.int (-1)].all (fun x => isWhole x 0 (M : Int)) && inV (.tup [.int (-1)]) (csV (cutsF 1 M))) = false
    simp [isWhole_int]
  have t1 := fun rv cv hr hc hd h1 h0 (a b' c : Option PV) => odd_turn (d := d) (S := S3) (rv := rv) (cv := cv) hw hr hc hd h1 h0 (o0 := some (.scr ns)) (o1 := some (.int (k : Int))) (o2 := some (.ref S.length)) (o3 := p3) (o4 := o4) (o6 := p6) a b' c
  have u1 := t1 (.int 2) (.tup [.int 0]) rfl (by decide +kernel) (by decide) rfl rfl
  have u2 := t1 .non .non rfl rfl (by decide) rfl rfl
  have u3 := t1 (.bl true) (.tup [.int 0]) rfl (by decide +kernel) (by decide) rfl rfl
  have u4 := t1 (.int 0) .non rfl rfl (by decide) (by rw [cutOk_0]; rfl) (by rw [cutOk_0]; rfl)
  have u5 := t1 (.int 0) (.tup [.int 9]) rfl (by decide +kernel) (by decide) (by rw [cutOk_0, pf0]; exact w9 _ (by omega)) (by rw [cutOk_0, pf0]; exact w9 _ (by omega))
  have u6 := t1 (.int 1) (.tup []) rfl rfl (by decide) (by rw [cutOk_1, pf1]; exact w0 _ (by omega)) (by rw [cutOk_1, pf1]; exact w0 _ (by omega))
  have u7 := t1 (.int 0) (.lst [.int 0]) rfl (by decide +kernel) (by decide) (by rw [cutOk_0]; rfl) (by rw [cutOk_0]; rfl)
  have u8 := t1 (.int 0) (.tup [.int 0, .int 0, .int 0]) rfl (by decide +kernel) (by decide) (by rw [cutOk_0, pf0]; exact w3 _ (by omega)) (by rw [cutOk_0, pf0]; exact w3 _ (by omega))
  have u9 := t1 (.int 0) (.tup [.int (-1)]) rfl (by decide +kernel) (by decide) (by rw [cutOk_0]; exact wm _) (by rw [cutOk_0]; exact wm _)
  -- the other errors
  have nb := r_need_both (d := d + 4) (S := S3) hw (v := .non) rfl
  have hn : hasSh w .non = false := rfl
  rw [hn, if_neg Bool.false_ne_true] at nb
  have eb : run T (d + 10) .blocks [wd w f b, .non] S3 = .exc .InvalidShelves [] S3 := by
    rw [run_eq d_blocks rfl rfl rfl]
    simp [d_blocks, nb]
  have ew : run T (d + 10) .ways [wd w f b, .non] S3 = .exc .InvalidShelves [] S3 := by
    rw [run_eq d_ways rfl rfl rfl]
    simp [d_ways, nb]
  have nf := r_need_facts (d := d + 4) (S := S3) hw (N := 0) (by omega) (v := .non) rfl (by decide)
  have hnf : hasF ((f + b : Nat) : Int) .non = false := rfl
  rw [hnf, if_neg Bool.false_ne_true] at nf
  have er : run T (d + 10) .rows [wd w f b, .non] S3 = .exc .InvalidFacts [] S3 := by
    rw [run_eq d_rows rfl rfl rfl]
    simp [d_rows, nf]
  have m2 := mul_rep S3 (.str "shelves value") (i := 2) (n := 2) rfl (by omega)
  have q := eqV_refl S3 (v := .lst [.str "shelves value", .str "shelves value", .str "facts value"]) rfl (by decide)
  simp [List.replicate] at m2
  have k2 : 2 ≤ LIM := by decide
  have k3 : 3 ≤ LIM := by decide
  refine ⟨some (.ref S.length), p3, some (.lst [.str "shelves value", .str "shelves value"]), some (wd w f b), p6, some (.int 0), some (.tup [.int (-1)]), S3, ?_, s3⟩
  have e3 : forL (turnF (run T (d + 10)) (.nm 3) turnB3) [] (rngL 0 3) [some (.scr ns), some (.int (k : Int)), some (.ref S.length), o3, o4, o5, o6, o7, o8, o9, none] S1 = .ok (.nx [some (.scr ns), some (.int (k : Int)), some (.ref S.length), p3, o4, some (wd w f b), p6, o7, o8, o9, none]) S3 := e3
  simp [outB3, e1, sm3, e3, fL_cons, fL_nil, u1, u2, u3, u4, u5, u6, u7, u8, u9, cL_cons, cL_nil, turn1, eb, ew, er, XC.told, capL, k2, k3, m2, q]
theorem law3 (ns : List Int) (hn : ns.length ≤ 63) : ∃ S', run T (40 + 1) .law_k03 [.scr ns] [] = .ok (.bl true) S' := by
  refine ⟨[], ?_⟩
  rw [run_eq d_law_k03 rfl rfl rfl, law3_body]
  have loop : ∀ m : Nat, m ≤ 14 → ∃ ρ' S', forL (turnF (run T 40) (.nm 1) outB3) [] (rngL 0 m) [some (.scr ns), none, none, none, none, none, none, none, none, none, none] [] = .ok (.nx ρ') S' ∧ (∃ o1 o2 o3 o4 o5 o6 o7 o8 o9, ρ' = [some (.scr ns), o1, o2, o3, o4, o5, o6, o7, o8, o9, none]) ∧ okS S' = true := fun m hm => by
    obtain ⟨ρ', S', e, i1, i2, _⟩ := forL_inv (f := turnF (run T 40) (.nm 1) outB3) (fun xs ρ S => (∃ o1 o2 o3 o4 o5 o6 o7 o8 o9, ρ = [some (.scr ns), o1, o2, o3, o4, o5, o6, o7, o8, o9, none]) ∧ okS S = true ∧ ∀ x ∈ xs, ∃ k : Nat, k < 1000 ∧ x = .int (k : Int)) (fun x xs ρ S ⟨⟨o1, o2, o3, o4, o5, o6, o7, o8, o9, eρ⟩, hS, hx⟩ => by
      subst eρ
      obtain ⟨k, hk, rfl⟩ := hx x List.mem_cons_self
      obtain ⟨p2, p3, p4, p5, p6, p7, p8, S', e, hS'⟩ := r_out3 (d := 30) (ns := ns) hk hS (o2 := o2) (o3 := o3) (o4 := o4) (o5 := o5) (o6 := o6) (o7 := o7) (o8 := o8) (o9 := o9)
      refine ⟨[some (.scr ns), some (.int (k : Int)), p2, p3, p4, p5, p6, p7, p8, o9, none], S', ?_, ⟨_, _, _, _, _, _, _, _, _, rfl⟩, hS', fun y hy => hx y (List.mem_cons_of_mem _ hy)⟩
      unfold turnF
      simp [e]) (rngL 0 m) [some (.scr ns), none, none, none, none, none, none, none, none, none, none] [] ⟨⟨_, _, _, _, _, _, _, _, _, rfl⟩, rfl, fun x hx => by
        unfold rngL at hx
        obtain ⟨i, hi, rfl⟩ := List.mem_map.mp hx
        exact ⟨i, by have := List.mem_range.mp hi; omega, by simp⟩⟩
    exact ⟨ρ', S', e, i1, i2⟩
  obtain ⟨ρ', S', el, ⟨o1, o2, o3, o4, o5, o6, o7, o8, o9, eρ⟩, hS'⟩ := loop (if 6 < min 14 ns.length then min 14 ns.length else 6) (by split <;> omega)
  subst eρ
  have em : (if (6 : Int) < (if (ns.length : Int) < 14 then (ns.length : Int) else 14) then (if (ns.length : Int) < 14 then (ns.length : Int) else 14) else 6) = ((if 6 < min 14 ns.length then min 14 ns.length else 6 : Nat) : Int) := by
    repeat' split
    all_goals omega
  generalize (if 6 < min 14 ns.length then min 14 ns.length else 6 : Nat) = m at el em
  have hm : small62 (m : Int) = true := small_i (by omega) (by split at em <;> omega)
  have eh := r_by_hand (d := 31) hS'
  have eh : run T 40 .l_by_hand [] S' = .ok (.bl true) S' := eh
  have fd := fin_data (S := []) (E := S') (v := .bl true) rfl rfl
  simp at fd
  simp [d_law_k03, em, hm, el, eh, fd]
end Pw
set_option maxHeartbeats 0
namespace Row
open PySem PySem.Spec PyProof.Rows L2 Pw
def top (i : Nat) : Stmt := PySem.Challenge.pw_anypanels_k03_rows_of_facts_blocks_and_w.main.body.getD i (.Pass ⟨0, 0, 0, 0⟩)
def rds0 : List RD := [⟨.is_whole, top 19, ["value", "low", "high"], ["value", "low", "high"], true⟩, ⟨.has_wardrobe, top 20, ["value"], ["value"], true⟩, ⟨.doors_of, top 21, ["wardrobe", "rail", "front"], ["wardrobe", "rail"], true⟩, ⟨.is_lot, top 22, ["many", "value", "door", "at"], ["many", "value"], true⟩, ⟨.is_fact, top 23, ["many", "value"], ["many", "value"], true⟩, ⟨.has_facts, top 24, ["wardrobe", "value", "many", "fact"], ["wardrobe", "value"], true⟩, ⟨.is_shelf, top 25, ["wardrobe", "value"], ["wardrobe", "value"], true⟩, ⟨.has_shelves, top 26, ["wardrobe", "value", "shelf"], ["wardrobe", "value"], true⟩, ⟨.need_wardrobe, top 27, ["wardrobe"], ["wardrobe"], true⟩, ⟨.need_facts, top 28, ["wardrobe", "facts"], ["wardrobe", "facts"], true⟩, ⟨.need_shelves, top 29, ["wardrobe", "shelves"], ["wardrobe", "shelves"], true⟩, ⟨.rooms, top 30, ["wardrobe", "shelves", "found", "here", "low", "high"], ["wardrobe", "shelves"], true⟩, ⟨.row_of, top 32, ["wardrobe", "number", "more", "less", "strict", "factors", "door"], ["wardrobe", "number", "more", "less", "strict"], true⟩, ⟨.fact_rows, top 33, ["wardrobe", "fact", "found"], ["wardrobe", "fact"], true⟩, ⟨.all_rows, top 34, ["wardrobe", "facts", "found", "door", "rail", "fact"], ["wardrobe", "facts"], true⟩, ⟨.cuts_of, top 35, ["many", "most", "found", "turn", "cut", "at"], ["many", "most"], true⟩, ⟨.all_blocks, top 36, ["wardrobe", "shelves", "found", "rail", "block"], ["wardrobe", "shelves"], true⟩, ⟨.all_ways, top 37, ["wardrobe", "shelves", "front", "back", "one", "other"], ["wardrobe", "shelves"], true⟩, ⟨.rows_of_block, top 38, ["wardrobe", "shelves", "rail", "block", "doors", "found", "here", "room", "cut"], ["wardrobe", "shelves", "rail", "block"], true⟩, ⟨.rows_of_way, top 39, ["wardrobe", "shelves", "rail", "way", "doors", "found", "here", "room", "cut"], ["wardrobe", "shelves", "rail", "way"], true⟩]
def rds1 : List RD := [⟨.rows, top 40, ["wardrobe", "facts"], ["wardrobe", "facts"], true⟩, ⟨.need_both, top 41, ["wardrobe", "shelves"], ["wardrobe", "shelves"], true⟩, ⟨.blocks, top 42, ["wardrobe", "shelves"], ["wardrobe", "shelves"], true⟩, ⟨.ways, top 43, ["wardrobe", "shelves"], ["wardrobe", "shelves"], true⟩, ⟨.need_cut, top 44, ["wardrobe", "shelves", "rail", "cut", "less", "most", "at"], ["wardrobe", "shelves", "rail", "cut", "less"], true⟩, ⟨.block_rows, top 45, ["wardrobe", "shelves", "rail", "block"], ["wardrobe", "shelves", "rail", "block"], true⟩, ⟨.way_rows, top 46, ["wardrobe", "shelves", "rail", "way"], ["wardrobe", "shelves", "rail", "way"], true⟩, ⟨.l_vat, top 48, ["script", "k", "cell"], ["script", "k"], true⟩, ⟨.l_under, top 49, ["vat", "many", "wide", "found"], ["vat", "many"], true⟩, ⟨.l_some, top 50, ["vat", "things"], ["vat", "things"], true⟩, ⟨.l_rails, top 51, ["wardrobe", "front"], ["wardrobe"], true⟩, ⟨.l_rooms, top 52, ["wardrobe", "shelves", "ends", "low", "high", "at"], ["wardrobe", "shelves"], true⟩, ⟨.l_cuts, top 53, ["parts", "most", "found", "first", "at", "second"], ["parts", "most"], true⟩, ⟨.l_line, top 54, ["wardrobe", "number", "more", "less", "strict", "found", "door"], ["wardrobe", "number", "more", "less", "strict"], true⟩, ⟨.l_fact_lines, top 55, ["wardrobe", "fact", "found"], ["wardrobe", "fact"], true⟩, ⟨.l_lines, top 56, ["wardrobe", "facts", "found", "rail", "fact", "door"], ["wardrobe", "facts"], true⟩, ⟨.l_way_lines, top 57, ["wardrobe", "shelves", "rail", "way", "doors", "found", "here", "room", "there"], ["wardrobe", "shelves", "rail", "way"], true⟩, ⟨.l_block_lines, top 58, ["wardrobe", "shelves", "rail", "block", "doors", "found", "here", "room", "there"], ["wardrobe", "shelves", "rail", "block"], true⟩, ⟨.l_wardrobe, top 59, ["vat", "doors", "front"], ["vat", "doors"], true⟩, ⟨.l_lot, top 60, ["vat", "many", "some", "door"], ["vat", "many"], true⟩]
def rds2 : List RD := [⟨.l_fact, top 61, ["vat", "wardrobe", "many", "low", "one", "other"], ["vat", "wardrobe"], true⟩, ⟨.l_shelves, top 62, ["vat", "wardrobe", "low", "high", "more"], ["vat", "wardrobe"], true⟩, ⟨.l_told_right, top 65, ["wardrobe", "shelves", "rail", "due", "front", "many", "doors", "way", "block", "cut", "back"], ["wardrobe", "shelves"], true⟩, ⟨.l_by_hand, top 66, ["two", "far"], [], false⟩, ⟨.law_k03, top 67, ["script", "k", "vat", "turn", "found", "wardrobe", "facts", "rail", "cut", "fact", "call"], ["script"], false⟩]
def rds : List RD := rds0 ++ rds1 ++ rds2
def loose0 : List PySem.Str := ["PanelError", "InvalidWardrobe", "InvalidFacts", "InvalidFact", "InvalidWidths", "InvalidShelves", "InvalidStanding", "InvalidMoves", "InvalidTruth", "InvalidNumber", "InvalidIndex", "Impossible", "Unlike", "NothingToUndo", "TooMany", "InvalidText", "MOST_WIDE", "is_whole", "has_wardrobe", "doors_of", "is_lot", "is_fact", "has_facts", "is_shelf", "has_shelves", "need_wardrobe", "need_facts", "need_shelves", "rooms", "row_of"]
def loose1 : List PySem.Str := ["fact_rows", "all_rows", "cuts_of", "all_blocks", "all_ways", "rows_of_block", "rows_of_way", "rows", "need_both", "blocks", "ways", "need_cut", "block_rows", "way_rows", "_law_vat", "_law_under", "_law_some", "_law_rails", "_law_rooms", "_law_cuts", "_law_line", "_law_fact_lines", "_law_lines", "_law_way_lines", "_law_block_lines", "_law_wardrobe", "_law_lot", "_law_fact", "_law_shelves", "_law_names"]
def loose2 : List PySem.Str := ["_law_error", "_law_told_right", "_law_by_hand"]
def loose : List PySem.Str := loose0 ++ loose1 ++ loose2
def bn : List PySem.Str := ["ValueError", "abs", "bool", "int", "isinstance", "len", "list", "max", "min", "range", "str", "tuple", "zip"]
def xs : List XC := [.InvalidWardrobe, .InvalidFacts, .InvalidFact, .InvalidWidths, .InvalidShelves, .InvalidStanding, .InvalidMoves, .InvalidTruth, .InvalidNumber, .InvalidIndex, .Impossible, .Unlike, .NothingToUndo, .TooMany, .InvalidText]
def r : RowD := ⟨PySem.Challenge.rw_anypanels_k03_rows_of_facts_blocks_and_w, T, rds, xs, bn, top 64, top 63, ["e", "some", "labels", "word", "good"]⟩
def dl : RD := ⟨.law_k03, top 67, ["script", "k", "vat", "turn", "found", "wardrobe", "facts", "rail", "cut", "fact", "call"], ["script"], false⟩
theorem r_ok : r.ok = true := by decide +kernel
abbrev R : PySem.W.OpenRow := PySem.W.OpenLaw.row PySem.Challenge.rw_anypanels_k03_rows_of_facts_blocks_and_w
abbrev hk : PySem.W.Hook := He.hookX 5 r.fa r.fn [] r.tf r.ex
def ob (s : PySem.W.SharedT) : He.AlX := He.obsX 5 r.fa r.fn [] r.tf r.ex (HandSHeadRun.getT s)
theorem ob_eq (s : PySem.W.SharedT) : ob s = hk.obs s.abs := He.obsX_eq (HandSHeadRun.getT_eq s)
theorem run (w : World) : HandSHeadRun.RunEq R (PySem.W.view R.prog [67]) hk ob 100000 loose w := by
  intro os
  kernel_rfl
end Row
namespace Pw
open PySem
theorem noNat : ∀ d ∈ Row.rds, (T d.f).nat.isSome = false := by decide +kernel
theorem nat_ok : NatOk Row.r := fun w K mg base d fd hd hn => by
  have hn : (T d.f).nat.isSome = true := hn
  rw [noNat d hd] at hn
  cases hn
end Pw
namespace Pw
open PySem
theorem law_holds : ∀ ns : List Int, ns.length ≤ 63 → (∀ z ∈ ns, Builtin.Int.intBits z ≤ 1048576) → ∃ S', run T (40 + 1) .law_k03 [.scr ns] [] = .ok (.bl true) S' := fun ns hn _ => law3 ns hn
end Pw
open PySem PySem.W PySem.Calls PyProof.Rows
theorem PySem.Challenge.cw_anypanels_k03_rows_of_facts_blocks_and_w_holds : PySem.Challenge.rw_anypanels_k03_rows_of_facts_blocks_and_w.Holds := by
  w_on; o_law
  refine HandSHeadRun.head_any (r := OpenLaw.row PySem.Challenge.rw_anypanels_k03_rows_of_facts_blocks_and_w) (q := view (OpenLaw.row PySem.Challenge.rw_anypanels_k03_rows_of_facts_blocks_and_w).prog [67]) (H := Row.hk) (ob := Row.ob) (M := 100000) (loose := Row.loose) (d := HandSHeadRun.topDef (OpenLaw.row PySem.Challenge.rw_anypanels_k03_rows_of_facts_blocks_and_w).prog 67) (kwd := []) Row.ob_eq
    (by kernel_rfl) (fun s => by kernel_rfl) Row.run (by kernel_rfl) (by kernel_rfl) (by kernel_rfl) (by rfl) (by first | assumption | decide +kernel) (by decide +kernel) ⟨rfl, rfl, rfl, rfl, rfl, by decide +kernel⟩ ?hw ?hc
  case hw => w_witness2
  case hc =>
    refine LamX.walk_ofTsE (l := PySem.Challenge.rw_anypanels_k03_rows_of_facts_blocks_and_w) (n := 63) (k := 4 * (40 + 1)) (x := "script") (CX := fun w => L2N.CX (PySem.Challenge.rw_anypanels_k03_rows_of_facts_blocks_and_w).prog w) rfl (by decide) (by kernel_rfl) ⟨rfl, by decide, by decide⟩ ?F (fun w H s e s' z => by obtain ⟨_, _, _, _, _, _, _, _, _, _, _, _, z⟩ := z; exact z)
    intro w mg fa h Y G hmg0
    obtain ⟨K, KX, c⟩ := Y
    have hmg : mg ("law" : PySem.Str) = some (.ref fa) := by
      have e : (HandSHeadRun.topDef (OpenLaw.row PySem.Challenge.rw_anypanels_k03_rows_of_facts_blocks_and_w).prog 67).name = ("law" : PySem.Str) := by kernel_rfl
      rw [← e]
      exact hmg0
    exact ⟨K, KX, Pw.law_at (r := Row.r) (dl := Row.dl) (D := 40) Row.r_ok Pw.nat_ok (List.mem_of_getElem? (i := 44) (by kernel_rfl)) (by kernel_rfl) (by kernel_rfl) (by kernel_rfl) Pw.law_holds KX G c hmg⟩
