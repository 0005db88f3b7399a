import PyProof.Rows.All
import Wide.All
import OpenK.AllK
import Wide.FinOn
import KE.KStateDown
import HandS.ForMost
import HandS.More
import HandS.Codes
import HandS.Evl
import HandS.Flow
import HandS.Style
import HandS.Wide
import HandS.Conv
import HandS.Small
import HandS.IsInst
import HandS.TupAny
import HandS.OwnEq
import HandS.Zip
import HandS.Walk
import HandS.Steps
import HandS.SortInts
import HandS.Defaults
import HandS.Property
import HandS.HeadHook1
import HandS.HeadHook2
import HandS.HeadNt
import PySem.Challenge.RW_fullqueue_k63_whole_hidden_effects
import HandS.Head0
import HandS.Head1
import HandS.Head2
import HandS.HeadEnd
import KE.GoesEnum
import KE.KUnpackStar
import PyProof.ToksMono
import HandS.Replace
import HandS.ReplaceList
import HandS.SetFor
import HandS.Strs
import KE.OsSort
import HandS.NoneIn
import HandS.Dict
import PyProof.DictFindH
import PyProof.DictRoadsH
import PyProof.P3Eq
import HandS.Iter
import HandS.TupSets
import KE.KOwnCellsLaws
import HandS.Ends
import OpenK.ZHead
/-! The mirror: what each def computes, in plain Lean. Letters are code points; 45 is the take. -/
namespace Fq
/-- a row: None, or how many are kept and the word -/
abbrev Row := Option (Nat × List Nat)
inductive Mode where
  | oldest | newest | strict
  deriving DecidableEq
/-- an item of a program: steps, or a part (sequences alone) and its count -/
inductive Pc where
  | t (s : List Nat)
  | r (body : List (List Nat)) (n : Nat)
def rowAfter (r : Row) (s C : Nat) (m : Mode) : Row := match r with
  | none => none
  | some (k, w) =>
    if s = 45 then (if k + w.length = 0 then none else if k > 0 then some (k - 1, w) else some (0, w.drop 1))
    else if k + w.length < C then some (k, w ++ [s])
    else match m with
      | .oldest => if k > 0 then some (k - 1, w ++ [s]) else some (0, w.drop 1 ++ [s])
      | .newest => some (k, w)
      | .strict => none
def joinedRow (r : Row) (rows : List Row) : Row := match r with
  | none => none
  | some (k, w) => match rows.getD (k + w.length) none with
    | none => none
    | some (k2, w2) => if k2 ≤ w.length then some (0, w.drop (w.length - k2) ++ w2) else some (k2 - w.length, w ++ w2)
def joinedRows (a b : List Row) : List Row := a.map fun r => joinedRow r b
def identityRows (C : Nat) : List Row := (List.range (C + 1)).map fun n => some (n, [])
def powerLoop (found factor : List Row) (left : Nat) : List Row :=
  if left = 0 then found
  else powerLoop (if left % 2 = 1 then joinedRows found factor else found) (joinedRows factor factor) (left / 2)
  termination_by left
  decreasing_by omega
def powerRows (rows : List Row) (e : Nat) : List Row := powerLoop (identityRows (rows.length - 1)) rows e
def stepRows (C : Nat) (m : Mode) (rows : List Row) (c : Nat) : List Row := rows.map fun r => rowAfter r c C m
def rowsFlat (b : List (List Nat)) (C : Nat) (m : Mode) : List Row := b.foldl (fun rows s => s.foldl (stepRows C m) rows) (identityRows C)
def rowsItem (C : Nat) (m : Mode) (rows : List Row) : Pc → List Row
  | .t s => s.foldl (stepRows C m) rows
  | .r b n => joinedRows rows (powerRows (rowsFlat b C m) n)
def rowsOf (is : List Pc) (C : Nat) (m : Mode) : List Row := is.foldl (rowsItem C m) (identityRows C)
theorem rowsOf_flat (b : List (List Nat)) (C : Nat) (m : Mode) : rowsOf (b.map Pc.t) C m = rowsFlat b C m := by
  unfold rowsOf rowsFlat
  rw [List.foldl_map]
  rfl
/-! ### profiles: puts, takes, low, high, fall -/
abbrev Five := Int × Int × Int × Int × Int
def nothing : Five := (0, 0, 0, 0, 0)
def joined (a b : Five) : Five :=
  (a.1 + b.1, a.2.1 + b.2.1, min a.2.2.1 (a.1 - a.2.1 + b.2.2.1), max a.2.2.2.1 (a.1 - a.2.1 + b.2.2.2.1), max (max a.2.2.2.2 b.2.2.2.2) (a.2.2.2.1 - (a.1 - a.2.1) - b.2.2.1))
def repLoop (found factor : Five) (left : Nat) : Five :=
  if left = 0 then found
  else repLoop (if left % 2 = 1 then joined found factor else found) (joined factor factor) (left / 2)
  termination_by left
  decreasing_by omega
def repeated (f : Five) (n : Nat) : Five := repLoop nothing f n
def oneFive (c : Nat) : Five := if c = 45 then (0, 1, -1, 0, 1) else (1, 0, 0, 1, 0)
def fiveStep (f : Five) (c : Nat) : Five := joined f (oneFive c)
def fiveFlat (b : List (List Nat)) : Five := b.foldl (fun f s => s.foldl fiveStep f) nothing
def fiveItem (f : Five) : Pc → Five
  | .t s => s.foldl fiveStep f
  | .r b n => joined f (repeated (fiveFlat b) n)
def fiveOf (is : List Pc) : Five := is.foldl fiveItem nothing
theorem fiveOf_flat (b : List (List Nat)) : fiveOf (b.map Pc.t) = fiveFlat b := by
  unfold fiveOf fiveFlat
  rw [List.foldl_map]
  rfl
/-! ### the last letters put -/
def putsOf (s : List Nat) : List Nat := s.filter fun c => decide (c ≠ 45)
/-- a text, n times -/
def times (n : Nat) (l : List Nat) : List Nat := (List.replicate n l).flatten
def lastJoin (count : Nat) (found letters : List Nat) : List Nat := letters.drop (letters.length - (count - found.length)) ++ found
def lastFlat (b : List (List Nat)) (count : Nat) : List Nat := b.reverse.foldl (fun found s => if count - found.length = 0 then found else lastJoin count found (putsOf s)) []
def lastRep (l : List Nat) (n left : Nat) : List Nat := if 0 < l.length ∧ l.length < left then times (min n (left / l.length + 1)) l else if n = 0 then [] else l
def lastItem (count : Nat) (found : List Nat) (i : Pc) : List Nat := if count - found.length = 0 then found else match i with
  | .t s => lastJoin count found (putsOf s)
  | .r b n => lastJoin count found (lastRep (lastFlat b (count - found.length)) n (count - found.length))
def lastOf (is : List Pc) (count : Nat) : List Nat := is.reverse.foldl (lastItem count) []
theorem lastOf_flat (b : List (List Nat)) (count : Nat) : lastOf (b.map Pc.t) count = lastFlat b count := by
  unfold lastOf lastFlat
  rw [← List.map_reverse, List.foldl_map]
  rfl
/-! ### results -/
/-- a row on a queue -/
def applyRow (r : Row) (q : List Nat) : Option (List Nat) := match r with
  | none => none
  | some (k, w) => some (q.drop (q.length - k) ++ w)
def resultOf (rows : List Row) (q : List Nat) : Option (List Nat) := applyRow (rows.getD q.length none) q
def startRange (f : Five) (C : Int) (m : Mode) : Option (Int × Int) := match m with
  | .strict => if f.2.2.2.1 - f.2.2.1 ≤ C then some (-f.2.2.1, C - f.2.2.2.1) else none
  | _ => if f.2.2.2.2 ≤ C then some (-f.2.2.1, C) else none
def rowItem (C : Nat) (m : Mode) (r : Row) : Pc → Row
  | .t s => s.foldl (fun r c => rowAfter r c C m) r
  | .r b n => (List.range (min n (2 * C + 2))).foldl (fun r _ => joinedRow r (rowsFlat b C m)) r
def rowOfProgram (is : List Pc) (n C : Nat) (m : Mode) : Row := is.foldl (rowItem C m) (some (n, []))
def resultByRow (is : List Pc) (C : Nat) (m : Mode) (q : List Nat) : Option (List Nat) := applyRow (rowOfProgram is q.length C m) q
def endOf (f : Five) (C : Int) (n : Int) : Int := min (n + (f.1 - f.2.1)) (C + (f.1 - f.2.1) - f.2.2.2.1)
def resultByLength (is : List Pc) (f : Five) (C : Int) (m : Mode) (q : List Nat) : Option (List Nat) := match startRange f C m with
  | none => none
  | some (lo, hi) => if lo ≤ (q.length : Int) ∧ (q.length : Int) ≤ hi then
      (let t := q ++ lastOf is (endOf f C q.length).toNat; some (t.drop (t.length - (endOf f C q.length).toNat)))
    else none
abbrev Fact := List Nat × Option (List Nat)
def fitsBy (is : List Pc) (f : Five) (C : Nat) (m : Mode) (facts : List Fact) : Bool := facts.all fun p => decide (resultByLength is f C m p.1 = p.2)
def fits (is : List Pc) (f : Five) (C : Nat) (m : Mode) (facts : List Fact) : Bool :=
  if facts.any (fun p => decide (C < p.1.length)) then false
  else match m with
    | .newest => if facts.all (fun p => decide ((p.1.length : Int) + f.2.2.2.1 ≤ (C : Int))) then fitsBy is f C .oldest facts
        else facts.all fun p => decide (resultByRow is C .newest p.1 = p.2)
    | _ => fitsBy is f C m facts
def fitting (is : List Pc) (m : Mode) (facts : List Fact) : List Nat := ((List.range 100).map (· + 1)).filter fun C => fits is (fiveOf is) C m facts
/-! ### the law's own helpers -/
def tests (C : Nat) : List (List Nat) := [] :: (List.range C).flatMap fun i => [List.replicate (i + 1) 97, List.replicate (i + 1) 98]
def answers (rows : List Row) (C : Nat) : List (Option (List Nat)) := (tests C).map (resultOf rows)
def other (rows : List Row) (at_ : Nat) : List Row := match rows.getD at_ none with
  | none => rows.set at_ (some (0, []))
  | some (k, w) => rows.set at_ (if k > 0 then some (k - 1, 122 :: w) else none)
end Fq

set_option Elab.async false
set_option linter.all false
set_option maxRecDepth 100000
set_option maxHeartbeats 4000000
namespace Fq
open PySem PySem.Spec PyProof.Rows L2
/-! ### the text by places -/
def top (i : Nat) : Stmt := PySem.Challenge.pw_fullqueue_k63_whole_hidden_effects.main.body.getD i (.Pass ⟨0, 0, 0, 0⟩)
abbrev s_is_integer : Stmt := top 16
abbrev s_is_text_of : Stmt := top 18
abbrev s_is_capacity : Stmt := top 19
abbrev s_check_capacity : Stmt := top 20
abbrev s_is_mode : Stmt := top 21
abbrev s_check_mode : Stmt := top 22
abbrev s_is_queue : Stmt := top 23
abbrev s_span_of : Stmt := top 31
abbrev s_is_count : Stmt := top 32
abbrev s_parse : Stmt := top 33
abbrev s_items_of : Stmt := top 34
abbrev s_last_of : Stmt := top 35
abbrev s_is_row : Stmt := top 37
abbrev s_joined_row : Stmt := top 38
abbrev s_joined_rows : Stmt := top 39
abbrev s_identity_rows : Stmt := top 40
abbrev s_power_rows : Stmt := top 41
abbrev s_joined : Stmt := top 46
abbrev s_repeated : Stmt := top 47
abbrev s_five_of : Stmt := top 48
abbrev s_start_range : Stmt := top 50
abbrev s_row_after : Stmt := top 52
abbrev s_rows_of : Stmt := top 53
abbrev s_effect_of : Stmt := top 54
abbrev s_check_answers : Stmt := top 56
abbrev s_row_of_answers : Stmt := top 57
abbrev s_identify : Stmt := top 58
abbrev s_is_fact : Stmt := top 59
abbrev s_check_facts : Stmt := top 60
abbrev s_row_of_program : Stmt := top 61
abbrev s_result_by_row : Stmt := top 62
abbrev s_result_by_length : Stmt := top 63
abbrev s_fits : Stmt := top 64
abbrev s_fitting_capacities : Stmt := top 65
abbrev s_check_capacities : Stmt := top 66
abbrev s_largest_group : Stmt := top 67
abbrev s_telling_length : Stmt := top 68
abbrev s_law_pool : Stmt := top 70
abbrev s_law_take : Stmt := top 71
abbrev s_law_steps : Stmt := top 72
abbrev s_law_result : Stmt := top 73
abbrev s_law_tests : Stmt := top 74
abbrev s_law_other : Stmt := top 75
abbrev s_law_largest_right : Stmt := top 76
abbrev s_law_sizes_right : Stmt := top 77
abbrev s_law_telling : Stmt := top 78
abbrev s_law : Stmt := top 79
abbrev s_init : Stmt := inClass (top 42) 0
abbrev s_rows : Stmt := inClass (top 42) 4
abbrev s_eq : Stmt := inClass (top 42) 15
def defs : List He5.DefA := [
  ⟨fun K => He.ga K "is_integer", "is_integer", "is_integer", defArgs s_is_integer, defBody s_is_integer, defScope s_is_integer, [.int 0], []⟩,
  ⟨fun K => He.ga K "is_text_of", "is_text_of", "is_text_of", defArgs s_is_text_of, defBody s_is_text_of, defScope s_is_text_of, [], []⟩,
  ⟨fun K => He.ga K "is_capacity", "is_capacity", "is_capacity", defArgs s_is_capacity, defBody s_is_capacity, defScope s_is_capacity, [], []⟩,
  ⟨fun K => He.ga K "check_capacity", "check_capacity", "check_capacity", defArgs s_check_capacity, defBody s_check_capacity, defScope s_check_capacity, [], []⟩,
  ⟨fun K => He.ga K "is_mode", "is_mode", "is_mode", defArgs s_is_mode, defBody s_is_mode, defScope s_is_mode, [], []⟩,
  ⟨fun K => He.ga K "check_mode", "check_mode", "check_mode", defArgs s_check_mode, defBody s_check_mode, defScope s_check_mode, [], []⟩,
  ⟨fun K => He.ga K "is_queue", "is_queue", "is_queue", defArgs s_is_queue, defBody s_is_queue, defScope s_is_queue, [.int 100], []⟩,
  ⟨fun K => He.ga K "span_of", "span_of", "span_of", defArgs s_span_of, defBody s_span_of, defScope s_span_of, [], []⟩,
  ⟨fun K => He.ga K "is_count", "is_count", "is_count", defArgs s_is_count, defBody s_is_count, defScope s_is_count, [], []⟩,
  ⟨fun K => He.ga K "parse", "parse", "parse", defArgs s_parse, defBody s_parse, defScope s_parse, [], []⟩,
  ⟨fun K => He.ga K "items_of", "items_of", "items_of", defArgs s_items_of, defBody s_items_of, defScope s_items_of, [], []⟩,
  ⟨fun K => He.ga K "last_of", "last_of", "last_of", defArgs s_last_of, defBody s_last_of, defScope s_last_of, [], []⟩,
  ⟨fun K => He.ga K "is_row", "is_row", "is_row", defArgs s_is_row, defBody s_is_row, defScope s_is_row, [], []⟩,
  ⟨fun K => He.ga K "joined_row", "joined_row", "joined_row", defArgs s_joined_row, defBody s_joined_row, defScope s_joined_row, [], []⟩,
  ⟨fun K => He.ga K "joined_rows", "joined_rows", "joined_rows", defArgs s_joined_rows, defBody s_joined_rows, defScope s_joined_rows, [], []⟩,
  ⟨fun K => He.ga K "identity_rows", "identity_rows", "identity_rows", defArgs s_identity_rows, defBody s_identity_rows, defScope s_identity_rows, [], []⟩,
  ⟨fun K => He.ga K "power_rows", "power_rows", "power_rows", defArgs s_power_rows, defBody s_power_rows, defScope s_power_rows, [], []⟩,
  ⟨fun K => He.ga K "joined", "joined", "joined", defArgs s_joined, defBody s_joined, defScope s_joined, [], []⟩,
  ⟨fun K => He.ga K "repeated", "repeated", "repeated", defArgs s_repeated, defBody s_repeated, defScope s_repeated, [], []⟩,
  ⟨fun K => He.ga K "five_of", "five_of", "five_of", defArgs s_five_of, defBody s_five_of, defScope s_five_of, [], []⟩,
  ⟨fun K => He.ga K "start_range", "start_range", "start_range", defArgs s_start_range, defBody s_start_range, defScope s_start_range, [], []⟩,
  ⟨fun K => He.ga K "row_after", "row_after", "row_after", defArgs s_row_after, defBody s_row_after, defScope s_row_after, [], []⟩,
  ⟨fun K => He.ga K "rows_of", "rows_of", "rows_of", defArgs s_rows_of, defBody s_rows_of, defScope s_rows_of, [], []⟩,
  ⟨fun K => He.ga K "effect_of", "effect_of", "effect_of", defArgs s_effect_of, defBody s_effect_of, defScope s_effect_of, [], []⟩,
  ⟨fun K => He.ga K "check_answers", "check_answers", "check_answers", defArgs s_check_answers, defBody s_check_answers, defScope s_check_answers, [], []⟩,
  ⟨fun K => He.ga K "row_of_answers", "row_of_answers", "row_of_answers", defArgs s_row_of_answers, defBody s_row_of_answers, defScope s_row_of_answers, [], []⟩,
  ⟨fun K => He.ga K "identify", "identify", "identify", defArgs s_identify, defBody s_identify, defScope s_identify, [], []⟩,
  ⟨fun K => He.ga K "is_fact", "is_fact", "is_fact", defArgs s_is_fact, defBody s_is_fact, defScope s_is_fact, [], []⟩,
  ⟨fun K => He.ga K "check_facts", "check_facts", "check_facts", defArgs s_check_facts, defBody s_check_facts, defScope s_check_facts, [], []⟩,
  ⟨fun K => He.ga K "row_of_program", "row_of_program", "row_of_program", defArgs s_row_of_program, defBody s_row_of_program, defScope s_row_of_program, [], []⟩,
  ⟨fun K => He.ga K "result_by_row", "result_by_row", "result_by_row", defArgs s_result_by_row, defBody s_result_by_row, defScope s_result_by_row, [], []⟩,
  ⟨fun K => He.ga K "result_by_length", "result_by_length", "result_by_length", defArgs s_result_by_length, defBody s_result_by_length, defScope s_result_by_length, [], []⟩,
  ⟨fun K => He.ga K "fits", "fits", "fits", defArgs s_fits, defBody s_fits, defScope s_fits, [], []⟩,
  ⟨fun K => He.ga K "fitting_capacities", "fitting_capacities", "fitting_capacities", defArgs s_fitting_capacities, defBody s_fitting_capacities, defScope s_fitting_capacities, [], []⟩,
  ⟨fun K => He.ga K "check_capacities", "check_capacities", "check_capacities", defArgs s_check_capacities, defBody s_check_capacities, defScope s_check_capacities, [], []⟩,
  ⟨fun K => He.ga K "largest_group", "largest_group", "largest_group", defArgs s_largest_group, defBody s_largest_group, defScope s_largest_group, [], []⟩,
  ⟨fun K => He.ga K "telling_length", "telling_length", "telling_length", defArgs s_telling_length, defBody s_telling_length, defScope s_telling_length, [], []⟩,
  ⟨fun K => He.ga K "_law_pool", "_law_pool", "_law_pool", defArgs s_law_pool, defBody s_law_pool, defScope s_law_pool, [], []⟩,
  ⟨fun K => He.ga K "_law_take", "_law_take", "_law_take", defArgs s_law_take, defBody s_law_take, defScope s_law_take, [], []⟩,
  ⟨fun K => He.ga K "_law_steps", "_law_steps", "_law_steps", defArgs s_law_steps, defBody s_law_steps, defScope s_law_steps, [], []⟩,
  ⟨fun K => He.ga K "_law_result", "_law_result", "_law_result", defArgs s_law_result, defBody s_law_result, defScope s_law_result, [], []⟩,
  ⟨fun K => He.ga K "_law_tests", "_law_tests", "_law_tests", defArgs s_law_tests, defBody s_law_tests, defScope s_law_tests, [], []⟩,
  ⟨fun K => He.ga K "_law_other", "_law_other", "_law_other", defArgs s_law_other, defBody s_law_other, defScope s_law_other, [], []⟩,
  ⟨fun K => He.ga K "_law_largest_right", "_law_largest_right", "_law_largest_right", defArgs s_law_largest_right, defBody s_law_largest_right, defScope s_law_largest_right, [], []⟩,
  ⟨fun K => He.ga K "_law_sizes_right", "_law_sizes_right", "_law_sizes_right", defArgs s_law_sizes_right, defBody s_law_sizes_right, defScope s_law_sizes_right, [], []⟩,
  ⟨fun K => He.ga K "_law_telling", "_law_telling", "_law_telling", defArgs s_law_telling, defBody s_law_telling, defScope s_law_telling, [], []⟩,
  ⟨fun K => He.ga K "law", "law", "law", defArgs s_law, defBody s_law, defScope s_law, [], []⟩,
  ⟨fun K => He.ma K (He.ga K "Effect") "__init__", "__init__", "Effect.__init__", defArgs s_init, defBody s_init, defScope s_init, [], []⟩,
  ⟨fun K => He5.wf K (He.ga K "Effect") "property" "rows", "rows", "Effect.rows", defArgs s_rows, defBody s_rows, defScope s_rows, [], []⟩,
  ⟨fun K => He.ma K (He.ga K "Effect") "__eq__", "__eq__", "Effect.__eq__", defArgs s_eq, defBody s_eq, defScope s_eq, [], []⟩]
def facts : List He.Fa := [.glo "is_integer", .glo "is_text_of", .glo "is_capacity", .glo "check_capacity", .glo "is_mode", .glo "check_mode", .glo "is_queue", .glo "span_of", .glo "is_count", .glo "parse", .glo "items_of", .glo "last_of", .glo "is_row", .glo "joined_row", .glo "joined_rows", .glo "identity_rows", .glo "power_rows", .glo "joined", .glo "repeated", .glo "five_of", .glo "start_range", .glo "row_after", .glo "rows_of", .glo "effect_of", .glo "check_answers", .glo "row_of_answers", .glo "identify", .glo "is_fact", .glo "check_facts", .glo "row_of_program", .glo "result_by_row", .glo "result_by_length", .glo "fits", .glo "fitting_capacities", .glo "check_capacities", .glo "largest_group", .glo "telling_length", .glo "_law_pool", .glo "_law_take", .glo "_law_steps", .glo "_law_result", .glo "_law_tests", .glo "_law_other", .glo "_law_largest_right", .glo "_law_sizes_right", .glo "_law_telling", .glo "law", .glo "Effect", .free "isinstance", .free "int", .free "bool", .free "str", .free "list", .free "tuple", .free "len", .free "all", .free "any", .free "min", .free "max", .free "range", .free "enumerate", .free "set", .free "sorted", .free "abs", .int "MOST" 100, .int "MOST_COUNT" (10 ^ 30), .int "MOST_DEPTH" 20, .str "LETTERS" "abcdefghijklmnopqrstuvwxyz", .str "TAKE" "-", .str "STEPS" "abcdefghijklmnopqrstuvwxyz-", .str "DIGITS" "0123456789", .glo "MODES", .glo "NOTHING", .cls "Effect", .noat "Effect" "all_rows", .mkr "Effect", .meth "Effect" "__eq__"]

def pRows (K : PySem.W.Frag) : Addr := He.ma K (He.ga K "Effect") "rows"
def extra (K : PySem.W.Frag) : Bool :=
  He.tupB K "MODES" [.str "oldest", .str "newest", .str "strict"] && (He.tupB K "NOTHING" [.int 0, .int 0, .int 0, .int 0, .int 0] &&
  (He.eqO (PySem.W.findIn K (.ref (He.ga K "Effect")) "rows") (some (some (.ref (pRows K)))) &&
  (He.eqO (PySem.W.specialIn K (.ref (pRows K)) "__get__") (some (some (.builtin "property.__get__"))) &&
  (decide (PySem.W.takesIn K (.ref (pRows K)) = some true) && ((match PySem.W.recIn K (pRows K) "property" with
    | some (.ref g :: _) => decide (g = He5.wf K (He.ga K "Effect") "property" "rows")
    | _ => false) &&
  (He.eqO (PySem.W.findIn K (.ref (He.ga K "Effect")) "__class__") (some (some (.builtin "object.__class__"))) &&
  (decide (PySem.W.mroIn K (He.ga K "Effect") (.type "object") = some true) && decide (PySem.W.kitOne K (.ref (He.ga K "Effect")) (.ref (He.ga K "Effect")) = some true))))))))
/-- what the top has left -/
structure Tx (K : PySem.W.Frag) (mg : Str → Option Value) : Prop where
  says : He5.SaysA facts defs K
  ex : extra K = true
  inn : ∃ h : Heap, K.In h ∧ h.Ns mainGlobals mg
section
variable {K : PySem.W.Frag} {mg : Str → Option Value}
theorem Tx.glo (T : Tx K mg) (i : Nat) {x : Str} (h : facts[i]? = some (.glo x) := by rfl) : mg x = some (.ref (He.ga K x)) := by
  obtain ⟨hp, X, G⟩ := T.inn
  exact He.glo_ok X G (T.says.fact i h)
theorem Tx.free (T : Tx K mg) (i : Nat) {x : Str} (h : facts[i]? = some (.free x) := by rfl) : mg x = none := by
  obtain ⟨hp, X, G⟩ := T.inn
  exact He.free_ok X G (T.says.fact i h)
theorem Tx.intc (T : Tx K mg) (i : Nat) {x : Str} {n : Int} (h : facts[i]? = some (.int x n) := by rfl) : ∃ t, mg x = some (.int n t) := by
  obtain ⟨hp, X, G⟩ := T.inn
  exact He.int_ok X G (T.says.fact i h)
theorem Tx.strc (T : Tx K mg) (i : Nat) {x z : Str} (h : facts[i]? = some (.str x z) := by rfl) : ∃ t, mg x = some (.str z t) := by
  obtain ⟨hp, X, G⟩ := T.inn
  exact He.str_ok X G (T.says.fact i h)
theorem Tx.isinstance_ (T : Tx K mg) : mg "isinstance" = none := T.free 48
theorem Tx.int_ (T : Tx K mg) : mg "int" = none := T.free 49
theorem Tx.bool_ (T : Tx K mg) : mg "bool" = none := T.free 50
theorem Tx.str_ (T : Tx K mg) : mg "str" = none := T.free 51
theorem Tx.list_ (T : Tx K mg) : mg "list" = none := T.free 52
theorem Tx.tuple_ (T : Tx K mg) : mg "tuple" = none := T.free 53
theorem Tx.len_ (T : Tx K mg) : mg "len" = none := T.free 54
theorem Tx.all_ (T : Tx K mg) : mg "all" = none := T.free 55
theorem Tx.any_ (T : Tx K mg) : mg "any" = none := T.free 56
theorem Tx.min_ (T : Tx K mg) : mg "min" = none := T.free 57
theorem Tx.max_ (T : Tx K mg) : mg "max" = none := T.free 58
theorem Tx.range_ (T : Tx K mg) : mg "range" = none := T.free 59
theorem Tx.enumerate_ (T : Tx K mg) : mg "enumerate" = none := T.free 60
theorem Tx.set_ (T : Tx K mg) : mg "set" = none := T.free 61
theorem Tx.sorted_ (T : Tx K mg) : mg "sorted" = none := T.free 62
theorem Tx.abs_ (T : Tx K mg) : mg "abs" = none := T.free 63
theorem Tx.MOST_ (T : Tx K mg) : ∃ t, mg "MOST" = some (.int 100 t) := T.intc 64
theorem Tx.MOST_COUNT_ (T : Tx K mg) : ∃ t, mg "MOST_COUNT" = some (.int (10 ^ 30) t) := T.intc 65
theorem Tx.MOST_DEPTH_ (T : Tx K mg) : ∃ t, mg "MOST_DEPTH" = some (.int 20 t) := T.intc 66
theorem Tx.LETTERS_ (T : Tx K mg) : ∃ t, mg "LETTERS" = some (.str "abcdefghijklmnopqrstuvwxyz" t) := T.strc 67
theorem Tx.TAKE_ (T : Tx K mg) : ∃ t, mg "TAKE" = some (.str "-" t) := T.strc 68
theorem Tx.STEPS_ (T : Tx K mg) : ∃ t, mg "STEPS" = some (.str "abcdefghijklmnopqrstuvwxyz-" t) := T.strc 69
theorem Tx.DIGITS_ (T : Tx K mg) : ∃ t, mg "DIGITS" = some (.str "0123456789" t) := T.strc 70
theorem Tx.MODES_ (T : Tx K mg) : mg "MODES" = some (.ref (He.ga K "MODES")) := T.glo 71
theorem Tx.NOTHING_ (T : Tx K mg) : mg "NOTHING" = some (.ref (He.ga K "NOTHING")) := T.glo 72
theorem Tx.Effect_ (T : Tx K mg) : mg "Effect" = some (.ref (He.ga K "Effect")) := T.glo 47
/-- the class Effect -/
abbrev EC (K : PySem.W.Frag) : Addr := He.ga K "Effect"
theorem Tx.cls (T : Tx K mg) : Cls K (EC K) := He.cls_ok (T.says.fact 73)
theorem Tx.noat (T : Tx K mg) : NoAttr K (EC K) "all_rows" := He.noat_ok (T.says.fact 74)
theorem Tx.mkr (T : Tx K mg) : Mk K (EC K) (He.ma K (EC K) "__init__") := He.mkr_ok (T.says.fact 75)
theorem Tx.meq (T : Tx K mg) : Meth K (EC K) "__eq__" (He.ma K (EC K) "__eq__") := He.meth_ok (T.says.fact 76)
theorem Tx.modes (T : Tx K mg) (H : Hp) : SqT K H (He.ga K "MODES") [.str "oldest", .str "newest", .str "strict"] := He.tupB_ok (He.ba T.ex).1 H
theorem Tx.nothing (T : Tx K mg) (H : Hp) : SqT K H (He.ga K "NOTHING") [.int 0, .int 0, .int 0, .int 0, .int 0] := He.tupB_ok (He.ba (He.ba T.ex).2).1 H
theorem Tx.prop (T : Tx K mg) : PropOf K (EC K) "rows" (pRows K) (He5.wf K (EC K) "property" "rows") := by
  obtain ⟨_, c⟩ := He.ba T.ex
  obtain ⟨_, c⟩ := He.ba c
  obtain ⟨c1, c⟩ := He.ba c
  obtain ⟨c2, c⟩ := He.ba c
  obtain ⟨c3, c⟩ := He.ba c
  obtain ⟨c4, c⟩ := He.ba c
  refine ⟨He.eqO_ok c1, He.eqO_ok c2, of_decide_eq_true c3, ?_⟩
  split at c4
  · rename_i g rest e
    have eg := of_decide_eq_true c4
    subst eg
    exact ⟨_, e⟩
  · cases c4
theorem Tx.isC (T : Tx K mg) : C8.InsC K (EC K) := by
  obtain ⟨_, c⟩ := He.ba T.ex
  obtain ⟨_, c⟩ := He.ba c
  obtain ⟨c1, c⟩ := He.ba c
  obtain ⟨c2, c⟩ := He.ba c
  obtain ⟨c3, c⟩ := He.ba c
  obtain ⟨c4, c⟩ := He.ba c
  obtain ⟨c5, c⟩ := He.ba c
  obtain ⟨c6, c7⟩ := He.ba c
  exact ⟨T.cls, He.eqO_ok c5, by first | rfl | decide +kernel, by first | rfl | decide +kernel, of_decide_eq_true c6, of_decide_eq_true c7⟩
theorem Tx.d_is_integer (T : Tx K mg) : ∃ fd, FunD K "is_integer" "is_integer" (defArgs s_is_integer) (defBody s_is_integer) (defScope s_is_integer) [V.int 0] [] (He.ga K "is_integer") fd := T.says.def_ 0
theorem Tx.m_is_integer (T : Tx K mg) : mg "is_integer" = some (.ref (He.ga K "is_integer")) := T.glo 0
theorem Tx.d_is_text_of (T : Tx K mg) : ∃ fd, FunD K "is_text_of" "is_text_of" (defArgs s_is_text_of) (defBody s_is_text_of) (defScope s_is_text_of) [] [] (He.ga K "is_text_of") fd := T.says.def_ 1
theorem Tx.m_is_text_of (T : Tx K mg) : mg "is_text_of" = some (.ref (He.ga K "is_text_of")) := T.glo 1
theorem Tx.d_is_capacity (T : Tx K mg) : ∃ fd, FunD K "is_capacity" "is_capacity" (defArgs s_is_capacity) (defBody s_is_capacity) (defScope s_is_capacity) [] [] (He.ga K "is_capacity") fd := T.says.def_ 2
theorem Tx.m_is_capacity (T : Tx K mg) : mg "is_capacity" = some (.ref (He.ga K "is_capacity")) := T.glo 2
theorem Tx.d_check_capacity (T : Tx K mg) : ∃ fd, FunD K "check_capacity" "check_capacity" (defArgs s_check_capacity) (defBody s_check_capacity) (defScope s_check_capacity) [] [] (He.ga K "check_capacity") fd := T.says.def_ 3
theorem Tx.m_check_capacity (T : Tx K mg) : mg "check_capacity" = some (.ref (He.ga K "check_capacity")) := T.glo 3
theorem Tx.d_is_mode (T : Tx K mg) : ∃ fd, FunD K "is_mode" "is_mode" (defArgs s_is_mode) (defBody s_is_mode) (defScope s_is_mode) [] [] (He.ga K "is_mode") fd := T.says.def_ 4
theorem Tx.m_is_mode (T : Tx K mg) : mg "is_mode" = some (.ref (He.ga K "is_mode")) := T.glo 4
theorem Tx.d_check_mode (T : Tx K mg) : ∃ fd, FunD K "check_mode" "check_mode" (defArgs s_check_mode) (defBody s_check_mode) (defScope s_check_mode) [] [] (He.ga K "check_mode") fd := T.says.def_ 5
theorem Tx.m_check_mode (T : Tx K mg) : mg "check_mode" = some (.ref (He.ga K "check_mode")) := T.glo 5
theorem Tx.d_is_queue (T : Tx K mg) : ∃ fd, FunD K "is_queue" "is_queue" (defArgs s_is_queue) (defBody s_is_queue) (defScope s_is_queue) [V.int 100] [] (He.ga K "is_queue") fd := T.says.def_ 6
theorem Tx.m_is_queue (T : Tx K mg) : mg "is_queue" = some (.ref (He.ga K "is_queue")) := T.glo 6
theorem Tx.d_span_of (T : Tx K mg) : ∃ fd, FunD K "span_of" "span_of" (defArgs s_span_of) (defBody s_span_of) (defScope s_span_of) [] [] (He.ga K "span_of") fd := T.says.def_ 7
theorem Tx.m_span_of (T : Tx K mg) : mg "span_of" = some (.ref (He.ga K "span_of")) := T.glo 7
theorem Tx.d_is_count (T : Tx K mg) : ∃ fd, FunD K "is_count" "is_count" (defArgs s_is_count) (defBody s_is_count) (defScope s_is_count) [] [] (He.ga K "is_count") fd := T.says.def_ 8
theorem Tx.m_is_count (T : Tx K mg) : mg "is_count" = some (.ref (He.ga K "is_count")) := T.glo 8
theorem Tx.d_parse (T : Tx K mg) : ∃ fd, FunD K "parse" "parse" (defArgs s_parse) (defBody s_parse) (defScope s_parse) [] [] (He.ga K "parse") fd := T.says.def_ 9
theorem Tx.m_parse (T : Tx K mg) : mg "parse" = some (.ref (He.ga K "parse")) := T.glo 9
theorem Tx.d_items_of (T : Tx K mg) : ∃ fd, FunD K "items_of" "items_of" (defArgs s_items_of) (defBody s_items_of) (defScope s_items_of) [] [] (He.ga K "items_of") fd := T.says.def_ 10
theorem Tx.m_items_of (T : Tx K mg) : mg "items_of" = some (.ref (He.ga K "items_of")) := T.glo 10
theorem Tx.d_last_of (T : Tx K mg) : ∃ fd, FunD K "last_of" "last_of" (defArgs s_last_of) (defBody s_last_of) (defScope s_last_of) [] [] (He.ga K "last_of") fd := T.says.def_ 11
theorem Tx.m_last_of (T : Tx K mg) : mg "last_of" = some (.ref (He.ga K "last_of")) := T.glo 11
theorem Tx.d_is_row (T : Tx K mg) : ∃ fd, FunD K "is_row" "is_row" (defArgs s_is_row) (defBody s_is_row) (defScope s_is_row) [] [] (He.ga K "is_row") fd := T.says.def_ 12
theorem Tx.m_is_row (T : Tx K mg) : mg "is_row" = some (.ref (He.ga K "is_row")) := T.glo 12
theorem Tx.d_joined_row (T : Tx K mg) : ∃ fd, FunD K "joined_row" "joined_row" (defArgs s_joined_row) (defBody s_joined_row) (defScope s_joined_row) [] [] (He.ga K "joined_row") fd := T.says.def_ 13
theorem Tx.m_joined_row (T : Tx K mg) : mg "joined_row" = some (.ref (He.ga K "joined_row")) := T.glo 13
theorem Tx.d_joined_rows (T : Tx K mg) : ∃ fd, FunD K "joined_rows" "joined_rows" (defArgs s_joined_rows) (defBody s_joined_rows) (defScope s_joined_rows) [] [] (He.ga K "joined_rows") fd := T.says.def_ 14
theorem Tx.m_joined_rows (T : Tx K mg) : mg "joined_rows" = some (.ref (He.ga K "joined_rows")) := T.glo 14
theorem Tx.d_identity_rows (T : Tx K mg) : ∃ fd, FunD K "identity_rows" "identity_rows" (defArgs s_identity_rows) (defBody s_identity_rows) (defScope s_identity_rows) [] [] (He.ga K "identity_rows") fd := T.says.def_ 15
theorem Tx.m_identity_rows (T : Tx K mg) : mg "identity_rows" = some (.ref (He.ga K "identity_rows")) := T.glo 15
theorem Tx.d_power_rows (T : Tx K mg) : ∃ fd, FunD K "power_rows" "power_rows" (defArgs s_power_rows) (defBody s_power_rows) (defScope s_power_rows) [] [] (He.ga K "power_rows") fd := T.says.def_ 16
theorem Tx.m_power_rows (T : Tx K mg) : mg "power_rows" = some (.ref (He.ga K "power_rows")) := T.glo 16
theorem Tx.d_joined (T : Tx K mg) : ∃ fd, FunD K "joined" "joined" (defArgs s_joined) (defBody s_joined) (defScope s_joined) [] [] (He.ga K "joined") fd := T.says.def_ 17
theorem Tx.m_joined (T : Tx K mg) : mg "joined" = some (.ref (He.ga K "joined")) := T.glo 17
theorem Tx.d_repeated (T : Tx K mg) : ∃ fd, FunD K "repeated" "repeated" (defArgs s_repeated) (defBody s_repeated) (defScope s_repeated) [] [] (He.ga K "repeated") fd := T.says.def_ 18
theorem Tx.m_repeated (T : Tx K mg) : mg "repeated" = some (.ref (He.ga K "repeated")) := T.glo 18
theorem Tx.d_five_of (T : Tx K mg) : ∃ fd, FunD K "five_of" "five_of" (defArgs s_five_of) (defBody s_five_of) (defScope s_five_of) [] [] (He.ga K "five_of") fd := T.says.def_ 19
theorem Tx.m_five_of (T : Tx K mg) : mg "five_of" = some (.ref (He.ga K "five_of")) := T.glo 19
theorem Tx.d_start_range (T : Tx K mg) : ∃ fd, FunD K "start_range" "start_range" (defArgs s_start_range) (defBody s_start_range) (defScope s_start_range) [] [] (He.ga K "start_range") fd := T.says.def_ 20
theorem Tx.m_start_range (T : Tx K mg) : mg "start_range" = some (.ref (He.ga K "start_range")) := T.glo 20
theorem Tx.d_row_after (T : Tx K mg) : ∃ fd, FunD K "row_after" "row_after" (defArgs s_row_after) (defBody s_row_after) (defScope s_row_after) [] [] (He.ga K "row_after") fd := T.says.def_ 21
theorem Tx.m_row_after (T : Tx K mg) : mg "row_after" = some (.ref (He.ga K "row_after")) := T.glo 21
theorem Tx.d_rows_of (T : Tx K mg) : ∃ fd, FunD K "rows_of" "rows_of" (defArgs s_rows_of) (defBody s_rows_of) (defScope s_rows_of) [] [] (He.ga K "rows_of") fd := T.says.def_ 22
theorem Tx.m_rows_of (T : Tx K mg) : mg "rows_of" = some (.ref (He.ga K "rows_of")) := T.glo 22
theorem Tx.d_effect_of (T : Tx K mg) : ∃ fd, FunD K "effect_of" "effect_of" (defArgs s_effect_of) (defBody s_effect_of) (defScope s_effect_of) [] [] (He.ga K "effect_of") fd := T.says.def_ 23
theorem Tx.m_effect_of (T : Tx K mg) : mg "effect_of" = some (.ref (He.ga K "effect_of")) := T.glo 23
theorem Tx.d_check_answers (T : Tx K mg) : ∃ fd, FunD K "check_answers" "check_answers" (defArgs s_check_answers) (defBody s_check_answers) (defScope s_check_answers) [] [] (He.ga K "check_answers") fd := T.says.def_ 24
theorem Tx.m_check_answers (T : Tx K mg) : mg "check_answers" = some (.ref (He.ga K "check_answers")) := T.glo 24
theorem Tx.d_row_of_answers (T : Tx K mg) : ∃ fd, FunD K "row_of_answers" "row_of_answers" (defArgs s_row_of_answers) (defBody s_row_of_answers) (defScope s_row_of_answers) [] [] (He.ga K "row_of_answers") fd := T.says.def_ 25
theorem Tx.m_row_of_answers (T : Tx K mg) : mg "row_of_answers" = some (.ref (He.ga K "row_of_answers")) := T.glo 25
theorem Tx.d_identify (T : Tx K mg) : ∃ fd, FunD K "identify" "identify" (defArgs s_identify) (defBody s_identify) (defScope s_identify) [] [] (He.ga K "identify") fd := T.says.def_ 26
theorem Tx.m_identify (T : Tx K mg) : mg "identify" = some (.ref (He.ga K "identify")) := T.glo 26
theorem Tx.d_is_fact (T : Tx K mg) : ∃ fd, FunD K "is_fact" "is_fact" (defArgs s_is_fact) (defBody s_is_fact) (defScope s_is_fact) [] [] (He.ga K "is_fact") fd := T.says.def_ 27
theorem Tx.m_is_fact (T : Tx K mg) : mg "is_fact" = some (.ref (He.ga K "is_fact")) := T.glo 27
theorem Tx.d_check_facts (T : Tx K mg) : ∃ fd, FunD K "check_facts" "check_facts" (defArgs s_check_facts) (defBody s_check_facts) (defScope s_check_facts) [] [] (He.ga K "check_facts") fd := T.says.def_ 28
theorem Tx.m_check_facts (T : Tx K mg) : mg "check_facts" = some (.ref (He.ga K "check_facts")) := T.glo 28
theorem Tx.d_row_of_program (T : Tx K mg) : ∃ fd, FunD K "row_of_program" "row_of_program" (defArgs s_row_of_program) (defBody s_row_of_program) (defScope s_row_of_program) [] [] (He.ga K "row_of_program") fd := T.says.def_ 29
theorem Tx.m_row_of_program (T : Tx K mg) : mg "row_of_program" = some (.ref (He.ga K "row_of_program")) := T.glo 29
theorem Tx.d_result_by_row (T : Tx K mg) : ∃ fd, FunD K "result_by_row" "result_by_row" (defArgs s_result_by_row) (defBody s_result_by_row) (defScope s_result_by_row) [] [] (He.ga K "result_by_row") fd := T.says.def_ 30
theorem Tx.m_result_by_row (T : Tx K mg) : mg "result_by_row" = some (.ref (He.ga K "result_by_row")) := T.glo 30
theorem Tx.d_result_by_length (T : Tx K mg) : ∃ fd, FunD K "result_by_length" "result_by_length" (defArgs s_result_by_length) (defBody s_result_by_length) (defScope s_result_by_length) [] [] (He.ga K "result_by_length") fd := T.says.def_ 31
theorem Tx.m_result_by_length (T : Tx K mg) : mg "result_by_length" = some (.ref (He.ga K "result_by_length")) := T.glo 31
theorem Tx.d_fits (T : Tx K mg) : ∃ fd, FunD K "fits" "fits" (defArgs s_fits) (defBody s_fits) (defScope s_fits) [] [] (He.ga K "fits") fd := T.says.def_ 32
theorem Tx.m_fits (T : Tx K mg) : mg "fits" = some (.ref (He.ga K "fits")) := T.glo 32
theorem Tx.d_fitting_capacities (T : Tx K mg) : ∃ fd, FunD K "fitting_capacities" "fitting_capacities" (defArgs s_fitting_capacities) (defBody s_fitting_capacities) (defScope s_fitting_capacities) [] [] (He.ga K "fitting_capacities") fd := T.says.def_ 33
theorem Tx.m_fitting_capacities (T : Tx K mg) : mg "fitting_capacities" = some (.ref (He.ga K "fitting_capacities")) := T.glo 33
theorem Tx.d_check_capacities (T : Tx K mg) : ∃ fd, FunD K "check_capacities" "check_capacities" (defArgs s_check_capacities) (defBody s_check_capacities) (defScope s_check_capacities) [] [] (He.ga K "check_capacities") fd := T.says.def_ 34
theorem Tx.m_check_capacities (T : Tx K mg) : mg "check_capacities" = some (.ref (He.ga K "check_capacities")) := T.glo 34
theorem Tx.d_largest_group (T : Tx K mg) : ∃ fd, FunD K "largest_group" "largest_group" (defArgs s_largest_group) (defBody s_largest_group) (defScope s_largest_group) [] [] (He.ga K "largest_group") fd := T.says.def_ 35
theorem Tx.m_largest_group (T : Tx K mg) : mg "largest_group" = some (.ref (He.ga K "largest_group")) := T.glo 35
theorem Tx.d_telling_length (T : Tx K mg) : ∃ fd, FunD K "telling_length" "telling_length" (defArgs s_telling_length) (defBody s_telling_length) (defScope s_telling_length) [] [] (He.ga K "telling_length") fd := T.says.def_ 36
theorem Tx.m_telling_length (T : Tx K mg) : mg "telling_length" = some (.ref (He.ga K "telling_length")) := T.glo 36
theorem Tx.d_law_pool (T : Tx K mg) : ∃ fd, FunD K "_law_pool" "_law_pool" (defArgs s_law_pool) (defBody s_law_pool) (defScope s_law_pool) [] [] (He.ga K "_law_pool") fd := T.says.def_ 37
theorem Tx.m_law_pool (T : Tx K mg) : mg "_law_pool" = some (.ref (He.ga K "_law_pool")) := T.glo 37
theorem Tx.d_law_take (T : Tx K mg) : ∃ fd, FunD K "_law_take" "_law_take" (defArgs s_law_take) (defBody s_law_take) (defScope s_law_take) [] [] (He.ga K "_law_take") fd := T.says.def_ 38
theorem Tx.m_law_take (T : Tx K mg) : mg "_law_take" = some (.ref (He.ga K "_law_take")) := T.glo 38
theorem Tx.d_law_steps (T : Tx K mg) : ∃ fd, FunD K "_law_steps" "_law_steps" (defArgs s_law_steps) (defBody s_law_steps) (defScope s_law_steps) [] [] (He.ga K "_law_steps") fd := T.says.def_ 39
theorem Tx.m_law_steps (T : Tx K mg) : mg "_law_steps" = some (.ref (He.ga K "_law_steps")) := T.glo 39
theorem Tx.d_law_result (T : Tx K mg) : ∃ fd, FunD K "_law_result" "_law_result" (defArgs s_law_result) (defBody s_law_result) (defScope s_law_result) [] [] (He.ga K "_law_result") fd := T.says.def_ 40
theorem Tx.m_law_result (T : Tx K mg) : mg "_law_result" = some (.ref (He.ga K "_law_result")) := T.glo 40
theorem Tx.d_law_tests (T : Tx K mg) : ∃ fd, FunD K "_law_tests" "_law_tests" (defArgs s_law_tests) (defBody s_law_tests) (defScope s_law_tests) [] [] (He.ga K "_law_tests") fd := T.says.def_ 41
theorem Tx.m_law_tests (T : Tx K mg) : mg "_law_tests" = some (.ref (He.ga K "_law_tests")) := T.glo 41
theorem Tx.d_law_other (T : Tx K mg) : ∃ fd, FunD K "_law_other" "_law_other" (defArgs s_law_other) (defBody s_law_other) (defScope s_law_other) [] [] (He.ga K "_law_other") fd := T.says.def_ 42
theorem Tx.m_law_other (T : Tx K mg) : mg "_law_other" = some (.ref (He.ga K "_law_other")) := T.glo 42
theorem Tx.d_law_largest_right (T : Tx K mg) : ∃ fd, FunD K "_law_largest_right" "_law_largest_right" (defArgs s_law_largest_right) (defBody s_law_largest_right) (defScope s_law_largest_right) [] [] (He.ga K "_law_largest_right") fd := T.says.def_ 43
theorem Tx.m_law_largest_right (T : Tx K mg) : mg "_law_largest_right" = some (.ref (He.ga K "_law_largest_right")) := T.glo 43
theorem Tx.d_law_sizes_right (T : Tx K mg) : ∃ fd, FunD K "_law_sizes_right" "_law_sizes_right" (defArgs s_law_sizes_right) (defBody s_law_sizes_right) (defScope s_law_sizes_right) [] [] (He.ga K "_law_sizes_right") fd := T.says.def_ 44
theorem Tx.m_law_sizes_right (T : Tx K mg) : mg "_law_sizes_right" = some (.ref (He.ga K "_law_sizes_right")) := T.glo 44
theorem Tx.d_law_telling (T : Tx K mg) : ∃ fd, FunD K "_law_telling" "_law_telling" (defArgs s_law_telling) (defBody s_law_telling) (defScope s_law_telling) [] [] (He.ga K "_law_telling") fd := T.says.def_ 45
theorem Tx.m_law_telling (T : Tx K mg) : mg "_law_telling" = some (.ref (He.ga K "_law_telling")) := T.glo 45
theorem Tx.d_law (T : Tx K mg) : ∃ fd, FunD K "law" "law" (defArgs s_law) (defBody s_law) (defScope s_law) [] [] (He.ga K "law") fd := T.says.def_ 46
theorem Tx.m_law (T : Tx K mg) : mg "law" = some (.ref (He.ga K "law")) := T.glo 46
theorem Tx.d_init (T : Tx K mg) : ∃ fd, FunD K "__init__" "Effect.__init__" (defArgs s_init) (defBody s_init) (defScope s_init) [] [] (He.ma K (EC K) "__init__") fd := T.says.def_ 47
theorem Tx.d_rows (T : Tx K mg) : ∃ fd, FunD K "rows" "Effect.rows" (defArgs s_rows) (defBody s_rows) (defScope s_rows) [] [] (He5.wf K (EC K) "property" "rows") fd := T.says.def_ 48
theorem Tx.d_eq (T : Tx K mg) : ∃ fd, FunD K "__eq__" "Effect.__eq__" (defArgs s_eq) (defBody s_eq) (defScope s_eq) [] [] (He.ma K (EC K) "__eq__") fd := T.says.def_ 49
end
section
variable {K : PySem.W.Frag} {mg : Str → Option Value}
theorem Tx.g_MOST (T : Tx K mg) : ∃ u, mg "MOST" = some u ∧ RelV (.int 100) u := let ⟨_, h⟩ := T.MOST_; ⟨_, h, _, rfl⟩
theorem Tx.g_MOST_COUNT (T : Tx K mg) : ∃ u, mg "MOST_COUNT" = some u ∧ RelV (.int (10 ^ 30)) u := let ⟨_, h⟩ := T.MOST_COUNT_; ⟨_, h, _, rfl⟩
theorem Tx.g_MOST_DEPTH (T : Tx K mg) : ∃ u, mg "MOST_DEPTH" = some u ∧ RelV (.int 20) u := let ⟨_, h⟩ := T.MOST_DEPTH_; ⟨_, h, _, rfl⟩
theorem Tx.g_LETTERS (T : Tx K mg) : ∃ u, mg "LETTERS" = some u ∧ RelV (.str "abcdefghijklmnopqrstuvwxyz") u := let ⟨_, h⟩ := T.LETTERS_; ⟨_, h, _, rfl⟩
theorem Tx.g_TAKE (T : Tx K mg) : ∃ u, mg "TAKE" = some u ∧ RelV (.str "-") u := let ⟨_, h⟩ := T.TAKE_; ⟨_, h, _, rfl⟩
theorem Tx.g_STEPS (T : Tx K mg) : ∃ u, mg "STEPS" = some u ∧ RelV (.str "abcdefghijklmnopqrstuvwxyz-") u := let ⟨_, h⟩ := T.STEPS_; ⟨_, h, _, rfl⟩
theorem Tx.g_DIGITS (T : Tx K mg) : ∃ u, mg "DIGITS" = some u ∧ RelV (.str "0123456789") u := let ⟨_, h⟩ := T.DIGITS_; ⟨_, h, _, rfl⟩
end
section
variable {P : Program} {w : World} {K : PySem.W.Frag} {mg : Str → Option Value} {base : Heap}
/-- THE RULE for a def of the module: its body as a term, its reading -/
theorem cal_of {x : Str} {st : Stmt} {f : Addr} {fd : FuncData} {N ps : List Str} {k : Nat} {sp : Sp} {dvs dvs' : List V} (F : FunD K x x (defArgs st) (defBody st) (defScope st) dvs [] f fd) (hm : mg x = some (.ref f))
    (b : ∃ ds, Vals dvs' ds ∧ Binds K fd ps ds) (S : FnScope N ps (defScope st)) (len : ∀ vs H Q E, sp vs H Q E → vs.length = ps.length)
    (hbody : ∀ (cdv : Value) (A : Around) (outer : List Env) (s : Shared) (H : Hp) (vs : List V) (Q : VK) (E : XK), Room k (A.deeper (envOfC x (defScope st) s.heap.objs.size f cdv)) → sp vs H Q E →
      ∃ t, PSs (cxOf C8.CX0 P w K mg base N x (defScope st) f cdv A outer s H E).nox (defBody st) t ∧ t { nx := fun _ H' => Q .non H', rt := Q } (start N vs) H) : C8.Cal P w K mg base (k + 1) x sp dvs' := by
  obtain ⟨ds, hv, hb⟩ := b
  refine ⟨f, fd, ps, ds, F.ok S len fun cdv A outer s H vs Q E hr hsp => ?_, hm, F.kp, hb, hv⟩
  obtain ⟨t, h, q⟩ := hbody cdv A outer s H vs Q E hr hsp
  exact ⟨t, h.nox, q⟩
/-- a promise that nobody can ask -/
theorem cal_never {x : Str} {st : Stmt} {f : Addr} {fd : FuncData} {N ps : List Str} {k : Nat} {sp : Sp} {dvs dvs' : List V} (F : FunD K x x (defArgs st) (defBody st) (defScope st) dvs [] f fd) (hm : mg x = some (.ref f))
    (b : ∃ ds, Vals dvs' ds ∧ Binds K fd ps ds) (S : FnScope N ps (defScope st)) (never : ∀ vs H Q E, ¬ sp vs H Q E) : C8.Cal P w K mg base (k + 1) x sp dvs' :=
  cal_of F hm b S (fun vs H Q E h => absurd h (never vs H Q E)) fun _ _ _ _ H vs Q E _ h => absurd h (never vs H Q E)
theorem binds_nil {x : Str} {params : Arguments} {body : List Stmt} {scope : Scope} {f : Addr} {fd : FuncData} {ps : List Str} (F : FunD K x x params body scope [] [] f fd)
    (h : ∀ (kV doc pm : Value) (an : Option Addr) (cdv ct : Value) (us : List Value), us.length = ps.length → bindArgs (PySem.W.fnOf x x params body scope .none kV doc pm an cdv ct) ⟨us, []⟩ = pure (ps.zip us)) : ∃ ds, Vals [] ds ∧ Binds K fd ps ds :=
  ⟨[], .nil, F.bindsN h⟩
end
/-! ### what stands in the heap -/
open Evl (Ex Ex.refl Ex.trans Ex.new Ex.mut fresh_back)
def Mode.s : Mode → Str
  | .oldest => "oldest"
  | .newest => "newest"
  | .strict => "strict"
def RowV (H : Hp) (v : V) : Row → Prop
  | none => v = .non
  | some (k, w) => ∃ a, v = .ref a ∧ H a = some (.tup [.int (k : Int), .str (SX.S w)])
theorem RowV.mono {H H' : Hp} {v : V} {r : Row} (e : Ex H H') (h : RowV H v r) : RowV H' v r := by
  cases r with
  | none => exact h
  | some r =>
    obtain ⟨k, w⟩ := r
    obtain ⟨a, h1, h2⟩ := h
    exact ⟨a, h1, e a _ h2⟩
def RowsV (H : Hp) (vs : List V) (rows : List Row) : Prop := Paired (RowV H) vs rows
theorem RowsV.mono {H H' : Hp} {vs : List V} {rs : List Row} (e : Ex H H') (h : RowsV H vs rs) : RowsV H' vs rs := Paired.mapP h fun _ _ q => q.mono e
/-- a table of rows, as a tuple; as a list -/
def TabV (H : Hp) (v : V) (rows : List Row) : Prop := ∃ a vs, v = .ref a ∧ H a = some (.tup vs) ∧ RowsV H vs rows
def TabL (H : Hp) (v : V) (rows : List Row) : Prop := ∃ a vs, v = .ref a ∧ H a = some (.lst vs) ∧ RowsV H vs rows
theorem TabV.mono {H H' : Hp} {v : V} {rs : List Row} (e : Ex H H') (h : TabV H v rs) : TabV H' v rs := by
  obtain ⟨a, vs, h1, h2, h3⟩ := h
  exact ⟨a, vs, h1, e a _ h2, h3.mono e⟩
theorem TabL.mono {H H' : Hp} {v : V} {rs : List Row} (e : Ex H H') (h : TabL H v rs) : TabL H' v rs := by
  obtain ⟨a, vs, h1, h2, h3⟩ := h
  exact ⟨a, vs, h1, e a _ h2, h3.mono e⟩
def Pc.flat : Pc → Prop
  | .t _ => True
  | .r _ _ => False
def SeqsV (H : Hp) (a : Addr) (b : List (List Nat)) : Prop := H a = some (.lst (b.map fun s => V.str (SX.S s)))
def ItV (H : Hp) (v : V) : Pc → Prop
  | .t s => v = .str (SX.S s)
  | .r b n => ∃ a c, v = .ref a ∧ H a = some (.tup [.ref c, .int (n : Int)]) ∧ SeqsV H c b
theorem ItV.mono {H H' : Hp} {v : V} {i : Pc} (e : Ex H H') (h : ItV H v i) : ItV H' v i := by
  cases i with
  | t s => exact h
  | r b n =>
    obtain ⟨a, c, h1, h2, h3⟩ := h
    exact ⟨a, c, h1, e a _ h2, e c _ h3⟩
def ItsV (H : Hp) (vs : List V) (is : List Pc) : Prop := Paired (ItV H) vs is
theorem ItsV.mono {H H' : Hp} {vs : List V} {is : List Pc} (e : Ex H H') (h : ItsV H vs is) : ItsV H' vs is := Paired.mapP h fun _ _ q => q.mono e
/-- the items of a program, a list -/
def PrgV (H : Hp) (v : V) (is : List Pc) : Prop := ∃ a vs, v = .ref a ∧ H a = some (.lst vs) ∧ ItsV H vs is
theorem PrgV.mono {H H' : Hp} {v : V} {is : List Pc} (e : Ex H H') (h : PrgV H v is) : PrgV H' v is := by
  obtain ⟨a, vs, h1, h2, h3⟩ := h
  exact ⟨a, vs, h1, e a _ h2, h3.mono e⟩
/-- sequences alone are items -/
theorem seqs_its {H : Hp} : ∀ b : List (List Nat), ItsV H (b.map fun s => V.str (SX.S s)) (b.map Pc.t)
  | [] => .nil
  | s :: b => .cons rfl (seqs_its b)
/-- how deep repetitions stand: 0 nothing, 1 sequences alone, 2 all -/
def Deep : Nat → List Pc → Prop
  | 0, _ => False
  | 1, is => ∀ i ∈ is, i.flat
  | _, _ => True
theorem Paired.at {α β : Type} {F : α → β → Prop} : ∀ {xs : List α} {ys : List β} {i : Nat} {x : α}, Paired F xs ys → xs[i]? = some x → ∃ y, ys[i]? = some y ∧ F x y
  | _, _, _, _, .nil, h => by simp at h
  | _, _, 0, _, .cons r _, h => by
    simp at h
    subst h
    exact ⟨_, rfl, r⟩
  | _, _, i + 1, x, .cons _ t, h => by
    obtain ⟨y, h1, h2⟩ := Paired.at (i := i) (x := x) t (by simpa using h)
    exact ⟨y, by simpa using h1, h2⟩
theorem Paired.at' {α β : Type} {F : α → β → Prop} : ∀ {xs : List α} {ys : List β} {i : Nat} {y : β}, Paired F xs ys → ys[i]? = some y → ∃ x, xs[i]? = some x ∧ F x y
  | _, _, _, _, .nil, h => by simp at h
  | _, _, 0, _, .cons r _, h => by
    simp at h
    subst h
    exact ⟨_, rfl, r⟩
  | _, _, i + 1, x, .cons _ t, h => by
    obtain ⟨y, h1, h2⟩ := Paired.at' (i := i) (y := x) t (by simpa using h)
    exact ⟨y, by simpa using h1, h2⟩
theorem Paired.snoc {α β : Type} {F : α → β → Prop} : ∀ {xs : List α} {ys : List β} {x : α} {y : β}, Paired F xs ys → F x y → Paired F (xs ++ [x]) (ys ++ [y])
  | _, _, _, _, .nil, h => .cons h .nil
  | _, _, _, _, .cons r t, h => .cons r (Paired.snoc t h)
/-! ### small words -/
theorem ifT {c : Bool} {A B : Prop} (hc : c = true) (h : A) : if c = true then A else B := by
  rw [if_pos hc]
  exact h
theorem ifF {c : Bool} {A B : Prop} (hc : c = false) (h : B) : if c = true then A else B := by
  rw [hc, if_neg Bool.false_ne_true]
  exact h
theorem ifS {c : Bool} {A B : Prop} (h1 : c = true → A) (h2 : c = false → B) : if c = true then A else B := by
  cases hc : c with
  | true => exact iteT (h1 hc)
  | false => exact iteF (h2 hc)
theorem ifD {p : Prop} [Decidable p] {A B : Prop} (h1 : p → A) (h2 : ¬ p → B) : if decide p = true then A else B :=
  ifS (fun h => h1 (of_decide_eq_true h)) fun h => h2 (of_decide_eq_false h)
theorem Slen (a : List Nat) : (SX.S a).length = a.length := SX.S_len a
theorem Scat (a b : List Nat) : SX.S a ++ SX.S b = SX.S (a ++ b) := SX.S_cat a b
theorem Sle {a : List Nat} (h : a.length ≤ 100000) : (SX.S a).length ≤ sizeLine := by
  rw [Slen]
  exact Nat.le_trans h (by decide)
theorem Sle2 {a b : List Nat} (h : a.length ≤ 100000) (h' : b.length ≤ 100000) : (SX.S a).length + (SX.S b).length ≤ sizeLine := by
  rw [Slen, Slen]
  exact Nat.le_trans (Nat.add_le_add h h') (by decide)
theorem Slice (a : List Nat) {i : Int} {k : Nat} (h : i = (k : Int)) : Txt.slice (SX.S a) (some i) none = SX.S (a.drop k) := by
  subst h
  rw [SX.slice_from (by omega), Int.toNat_natCast]
theorem Vint {i j : Int} (h : i = j) : V.int i = V.int j := congrArg V.int h
/-- a new pair is a row -/
theorem row_new {H : Hp} {p : Addr} {k : Int} {n : Nat} {z : Str} {w : List Nat} (hk : k = (n : Int)) (hz : z = SX.S w) : RowV (upd H p (.tup [.int k, .str z])) (.ref p) (some (n, w)) := by
  subst hk
  subst hz
  exact ⟨p, rfl, upd_same⟩
theorem ref_non {a : Addr} : decide (V.ref a = V.non) = false := decide_eq_false fun q => nomatch q
theorem str_non {z : Str} : decide (V.str z = V.non) = false := decide_eq_false fun q => nomatch q
theorem non_non : decide (V.non = V.non) = true := decide_eq_true rfl
theorem S_eq {a b : List Nat} : (V.str (SX.S a) = V.str (SX.S b)) ↔ a = b := ⟨fun h => SX.S_inj (V.str.inj h), fun h => by rw [h]⟩
theorem S_one (s : Nat) : SX.S [s] = ⟨#[s]⟩ := rfl
theorem take_S : (("-" : Str)) = SX.S [45] := by decide +kernel
theorem two_size : 2 ≤ sizeLine := by decide
theorem V_take {s : Nat} : (V.str (SX.S [s]) = V.str "-") ↔ s = 45 := by
  rw [take_S, S_eq]
  constructor
  · intro h
    exact List.head_eq_of_cons_eq h
  · intro h
    rw [h]
theorem V_int {i j : Int} : (V.int i = V.int j) ↔ i = j := ⟨V.int.inj, fun h => by rw [h]⟩
theorem one_len {s : Nat} : [s].length ≤ 100000 := by
  show 1 ≤ 100000
  decide
theorem Slice1 (a : List Nat) : Txt.slice (SX.S a) (some 1) none = SX.S (a.drop 1) := Slice a rfl

end Fq

set_option Elab.async false
set_option linter.all false
set_option maxRecDepth 100000
set_option maxHeartbeats 0
/-! The head's run, seen with the token of TAKE. -/
namespace Fq
open PySem PySem.Spec PyProof.Rows L2
def loose0 : List PySem.Str := ["_wall", "QueueError", "InvalidInteger", "InvalidCapacity", "InvalidMode", "InvalidQueue", "InvalidProgram", "InvalidEffect", "InvalidFacts", "CapacityMismatch", "EffectFailed", "LETTERS"]
def loose1 : List PySem.Str := ["MOST", "MODES", "is_integer", "check_integer", "is_text_of", "is_capacity", "check_capacity", "is_mode", "check_mode", "is_queue", "check_queue", "TAKE"]
def loose2 : List PySem.Str := ["STEPS", "DIGITS", "MOST_COUNT", "MOST_DEPTH", "span_of", "is_count", "parse", "items_of", "last_of", "is_row", "joined_row", "joined_rows"]
def loose3 : List PySem.Str := ["identity_rows", "power_rows", "Effect", "check_same", "NOTHING", "joined", "repeated", "five_of", "start_range", "row_after", "rows_of", "effect_of"]
def loose4 : List PySem.Str := ["check_answers", "row_of_answers", "identify", "is_fact", "check_facts", "row_of_program", "result_by_row", "result_by_length", "fits", "fitting_capacities", "check_capacities", "largest_group"]
def loose5 : List PySem.Str := ["telling_length", "_law_pool", "_law_take", "_law_steps", "_law_result", "_law_tests", "_law_other", "_law_largest_right", "_law_sizes_right", "_law_telling"]
def loose : List PySem.Str := loose0 ++ (loose1 ++ (loose2 ++ (loose3 ++ (loose4 ++ (loose5)))))

def obsY (n : Nat) (fa : List He.Fa) (fn : List He5.DefA) (ex : PySem.W.Frag → Bool) (g : Addr → Option Obj) : He.AlD × Bool := (He5.obsA fa fn (He.frG g (He5.asA g n)), ex (He.frG g (He5.asA g n)))
/-- TAKE's token is a true one, and was given out -/
def tokK (K : PySem.W.Frag) (t : Nat) : Bool := match PySem.W.nsIn K mainGlobals "TAKE" with
  | some (some (.str _ u)) => (!Nat.beq u 0) && Nat.blt u t
  | _ => false
def obsT (s : Shared) : (He.AlD × Bool) × Bool := (obsY 5 facts defs extra s.heap.get?, tokK (He.frG s.heap.get? (He5.asA s.heap.get? 5)) s.toks)
def obT (s : PySem.W.SharedT) : (He.AlD × Bool) × Bool := (obsY 5 facts defs extra (HandSHeadRun.getT s), tokK (He.frG (HandSHeadRun.getT s) (He5.asA (HandSHeadRun.getT s) 5)) s.toks)
def valT : (He.AlD × Bool) × Bool := ((He5.valA defs, true), true)
theorem obT_eq (s : PySem.W.SharedT) : obT s = obsT s.abs := by
  have e : HandSHeadRun.getT s = s.abs.heap.get? := funext (HandSHeadRun.getT_eq s)
  unfold obT obsT
  rw [e] <;> rfl
abbrev R : PySem.W.OpenRow := PySem.W.OpenLaw.row PySem.Challenge.rw_fullqueue_k63_whole_hidden_effects
theorem map_three {A B C D : Type _} {o : Option A} {f : A → B} {g : A → C} {h : A → D} {b : B} {c : C} {d : D} (h1 : o.map (fun s => (f s, g s)) = some (b, c)) (h2 : o.map (fun s => h s) = some d) : o.map (fun s => (f s, g s, h s)) = some (b, c, d) := by
  cases o with
  | none => cases h1
  | some x =>
    have e1 : some (f x, g x) = some (b, c) := h1
    have e2 : some (h x) = some d := h2
    cases e1
    cases e2
    rfl
/-- the run in two looks: less memory at once -/
theorem runA (w : World) : ∀ os : OsState, (HandSHeadRun.endF (HandSHeadRun.stepQ (HandSHeadRun.denQ HandSHeadRun.tabQ) R.prog w) 6000 R.prog w os).map (fun s => (HandSHeadRun.looksF R.prog (PySem.W.boot_heap w.params) s.abs, HandSHeadRun.seenQ (PySem.W.view R.prog [79]) loose (importedModules R.prog.main.body) (fun s => PySem.W.xlAt (PySem.W.view R.prog [79]) [] s && PySem.W.recOk R.toRowW.records s) s.abs)) = some (true, PySem.W.openGood (PySem.W.view R.prog [79]) loose) := by
  intro os
  kernel_rfl
theorem runB (w : World) : ∀ os : OsState, (HandSHeadRun.endF (HandSHeadRun.stepQ (HandSHeadRun.denQ HandSHeadRun.tabQ) R.prog w) 6000 R.prog w os).map (fun s => obT s) = some valT := by
  intro os
  kernel_rfl
theorem runT (w : World) : ∀ os : OsState, (HandSHeadRun.endF (HandSHeadRun.stepQ (HandSHeadRun.denQ HandSHeadRun.tabQ) R.prog w) 6000 R.prog w os).map (fun s => (HandSHeadRun.looksF R.prog (PySem.W.boot_heap w.params) s.abs, HandSHeadRun.seenQ (PySem.W.view R.prog [79]) loose (importedModules R.prog.main.body) (fun s => PySem.W.xlAt (PySem.W.view R.prog [79]) [] s && PySem.W.recOk R.toRowW.records s) s.abs, obT s)) = some (true, PySem.W.openGood (PySem.W.view R.prog [79]) loose, valT) := by
  intro os
  exact map_three (runA w os) (runB w os)
end Fq

/-! Rows that stand: lengths. -/
namespace Fq
/-- every row's end is at most C; the table has C + 1 rows -/
def OkRow (C : Nat) (r : Row) : Prop := ∀ k w, r = some (k, w) → k + w.length ≤ C
structure OkRows (C : Nat) (rows : List Row) : Prop where
  len : rows.length = C + 1
  ok : ∀ r, r ∈ rows → OkRow C r
theorem okRow_none (C : Nat) : OkRow C none := fun _ _ h => nomatch h
theorem okRow_some {C k : Nat} {w : List Nat} (h : k + w.length ≤ C) : OkRow C (some (k, w)) := fun _ _ e => by
  cases e
  exact h
theorem okRow_after {C : Nat} {m : Mode} {r : Row} {s : Nat} (h : OkRow C r) (hC : 1 ≤ C) : OkRow C (rowAfter r s C m) := by
  cases r with
  | none => exact okRow_none C
  | some r =>
    obtain ⟨k, w⟩ := r
    have q := h k w rfl
    unfold rowAfter
    dsimp only
    split
    · split
      · exact okRow_none C
      · split
        · exact okRow_some (by omega)
        · exact okRow_some (by rw [List.length_drop]; omega)
    · split
      · exact okRow_some (by rw [List.length_append, List.length_singleton]; omega)
      · cases m with
        | oldest =>
          dsimp only
          split
          · exact okRow_some (by rw [List.length_append, List.length_singleton]; omega)
          · exact okRow_some (by rw [List.length_append, List.length_drop, List.length_singleton]; omega)
        | newest => exact okRow_some q
        | strict => exact okRow_none C
theorem getD_mem {α : Type} {l : List α} {i : Nat} {d : α} (h : i < l.length) : l.getD i d ∈ l := by
  rw [List.getD_eq_getElem?_getD, List.getElem?_eq_getElem h, Option.getD_some]
  exact List.getElem_mem h
theorem okRow_joined {C : Nat} {r : Row} {rows : List Row} (h : OkRow C r) (hr : OkRows C rows) : OkRow C (joinedRow r rows) := by
  cases r with
  | none => exact okRow_none C
  | some r =>
    obtain ⟨k, w⟩ := r
    have q := h k w rfl
    have m : OkRow C (rows.getD (k + w.length) none) := hr.ok _ (getD_mem (by rw [hr.len]; omega))
    unfold joinedRow
    dsimp only
    cases e : rows.getD (k + w.length) none with
    | none => exact okRow_none C
    | some r2 =>
      obtain ⟨k2, w2⟩ := r2
      have q2 := m k2 w2 e
      dsimp only
      split
      · exact okRow_some (by rw [List.length_append, List.length_drop]; omega)
      · exact okRow_some (by rw [List.length_append]; omega)
theorem okRows_joined {C : Nat} {a b : List Row} (ha : OkRows C a) (hb : OkRows C b) : OkRows C (joinedRows a b) := by
  refine ⟨by unfold joinedRows; rw [List.length_map, ha.len], fun r h => ?_⟩
  obtain ⟨r0, h0, rfl⟩ := List.mem_map.mp h
  exact okRow_joined (ha.ok r0 h0) hb
theorem okRows_identity (C : Nat) : OkRows C (identityRows C) := by
  refine ⟨by unfold identityRows; rw [List.length_map, List.length_range], fun r h => ?_⟩
  obtain ⟨n, h0, rfl⟩ := List.mem_map.mp h
  rw [List.mem_range] at h0
  exact okRow_some (by simp; omega)
theorem okRows_step {C : Nat} {m : Mode} {rows : List Row} {s : Nat} (h : OkRows C rows) (hC : 1 ≤ C) : OkRows C (stepRows C m rows s) := by
  refine ⟨by unfold stepRows; rw [List.length_map, h.len], fun r hr => ?_⟩
  obtain ⟨r0, h0, rfl⟩ := List.mem_map.mp hr
  exact okRow_after (h.ok r0 h0) hC
theorem okRows_steps {C : Nat} {m : Mode} (hC : 1 ≤ C) : ∀ (s : List Nat) {rows : List Row}, OkRows C rows → OkRows C (s.foldl (stepRows C m) rows)
  | [], _, h => h
  | _ :: s, _, h => okRows_steps hC s (okRows_step h hC)
theorem okRows_power_loop {C : Nat} (n : Nat) : ∀ {found factor : List Row}, OkRows C found → OkRows C factor → OkRows C (powerLoop found factor n) := by
  induction n using Nat.strongRecOn with
  | _ n ih =>
    intro found factor h1 h2
    unfold powerLoop
    split
    · exact h1
    · refine ih (n / 2) (by omega) ?_ (okRows_joined h2 h2)
      split
      · exact okRows_joined h1 h2
      · exact h1
theorem okRows_power {C : Nat} {rows : List Row} (h : OkRows C rows) (n : Nat) : OkRows C (powerRows rows n) := by
  unfold powerRows
  refine okRows_power_loop n ?_ h
  rw [h.len]
  exact okRows_identity C
theorem okRows_flat {C : Nat} {m : Mode} (hC : 1 ≤ C) (b : List (List Nat)) : OkRows C (rowsFlat b C m) := by
  unfold rowsFlat
  have key : ∀ (b : List (List Nat)) (rows : List Row), OkRows C rows → OkRows C (b.foldl (fun rows s => s.foldl (stepRows C m) rows) rows) := by
    intro b
    induction b with
    | nil => exact fun _ h => h
    | cons s b ih => exact fun rows h => ih _ (okRows_steps hC s h)
  exact key b _ (okRows_identity C)
theorem okRows_item {C : Nat} {m : Mode} (hC : 1 ≤ C) {rows : List Row} (h : OkRows C rows) (i : Pc) : OkRows C (rowsItem C m rows i) := by
  cases i with
  | t s => exact okRows_steps hC s h
  | r b n => exact okRows_joined h (okRows_power (okRows_flat hC b) n)
theorem okRows_items {C : Nat} {m : Mode} (hC : 1 ≤ C) : ∀ (is : List Pc) {rows : List Row}, OkRows C rows → OkRows C (is.foldl (rowsItem C m) rows)
  | [], _, h => h
  | i :: is, _, h => okRows_items hC is (okRows_item hC h i)
theorem okRows_of {C : Nat} {m : Mode} (hC : 1 ≤ C) (is : List Pc) : OkRows C (rowsOf is C m) := okRows_items hC is (okRows_identity C)
end Fq

set_option Elab.async false
set_option linter.all false
set_option maxRecDepth 100000
set_option maxHeartbeats 4000000
namespace Fq
open PySem PySem.Spec PyProof.Rows L2
open Evl (Ex Ex.refl Ex.trans Ex.new Ex.mut fresh_back ex_l ex_t sq_of st_of)
theorem Ex.push {H H1 : Hp} {p : Addr} {o : HO} (e : Ex H H1) (h : H1 p = none) : Ex H (upd H1 p o) := e.trans (Ex.new h)
/-- what is no list stands -/
def ExT (H H' : Hp) : Prop := ∀ b o, (∀ xs, o ≠ .lst xs) → H b = some o → H' b = some o
theorem ExT.of {H H' : Hp} (e : Ex H H') : ExT H H' := fun b o _ h => e b o h
theorem ExT.lst {H : Hp} {D : Addr} {xs ys : List V} (h : H D = some (.lst xs)) : ExT H (upd H D (.lst ys)) := fun b o n q => by
  by_cases hb : b = D
  · subst hb
    rw [h] at q
    cases q
    exact absurd rfl (n xs)
  · rw [upd_ne hb]
    exact q
theorem RowV.monoT {H H' : Hp} {v : V} {r : Row} (e : ExT H H') (h : RowV H v r) : RowV H' v r := by
  cases r with
  | none => exact h
  | some r =>
    obtain ⟨k, w⟩ := r
    obtain ⟨a, h1, h2⟩ := h
    exact ⟨a, h1, e a _ (fun _ q => nomatch q) h2⟩
theorem filter_snoc_t {n : Nat} {f : Nat → Bool} (h : f n = true) : (List.range (n + 1)).filter f = (List.range n).filter f ++ [n] := by
  rw [List.range_succ, List.filter_append, List.filter_cons, if_pos h]
  rfl
theorem filter_snoc_f {n : Nat} {f : Nat → Bool} (h : f n = false) : (List.range (n + 1)).filter f = (List.range n).filter f := by
  rw [List.range_succ, List.filter_append, List.filter_cons, if_neg (by rw [h]; decide)]
  exact List.append_nil _
theorem Paired.len {α β : Type} {F : α → β → Prop} : ∀ {xs : List α} {ys : List β}, Paired F xs ys → xs.length = ys.length
  | _, _, .nil => rfl
  | _, _, .cons _ t => congrArg (· + 1) (Paired.len t)
theorem Paired.of_get {α β : Type} {F : α → β → Prop} : ∀ {xs : List α} {ys : List β}, ys.length = xs.length → (∀ (i : Nat) (x : α), xs[i]? = some x → ∃ y, ys[i]? = some y ∧ F x y) → Paired F xs ys
  | [], [], _, _ => .nil
  | [], _ :: _, h, _ => by simp at h
  | _ :: _, [], h, _ => by simp at h
  | x :: xs, y :: ys, h, q => by
    refine .cons ?_ (Paired.of_get (by simpa using h) fun i z hz => ?_)
    · obtain ⟨y', h1, h2⟩ := q 0 x rfl
      have e : y = y' := Option.some.inj h1
      subst e
      exact h2
    · obtain ⟨y', h1, h2⟩ := q (i + 1) z (by simpa using hz)
      exact ⟨y', by simpa using h1, h2⟩
theorem filt_all (n : Nat) : (List.range n).filter (fun _ => true) = List.range n := List.filter_eq_self.mpr fun _ _ => rfl
theorem tyes {σ : L2.St} {H : Hp} {F G : Hp → Prop} (h : F H) : tYes σ H (fun b H3 => if b = true then F H3 else G H3) := by
  show if true = true then F H else G H
  rw [if_pos rfl]
  exact h
theorem range_at {n i j : Nat} (h : (List.range n)[i]? = some j) : i = j := by
  obtain ⟨h1, h2⟩ := List.getElem?_eq_some_iff.mp h
  rw [List.getElem_range] at h2
  exact h2
/-- a comprehension over anything that stands: which turns give, and what -/
theorem lc_gen {J : L2.It} {n : Nat} {G : Hp → Prop} {Y : Nat → Hp → V → Hp → Prop} (wk : Walk J n G Y) {g : TG} {tt : TT} {te : TE} {vs : List Nat} {σ : L2.St} {H1 : Hp} {D : Addr} {Qd : Hp → Prop}
    (hD : H1 D = none) (hn : n ≤ 100000) (hG : ∀ H', Ex H1 H' → G H') (hY : ∀ i H x H', Y i H x H' → Ex H H') (keep : Nat → Bool) (R : Nat → V → Hp → Prop) (mono : ∀ i y H H', ExT H H' → R i y H → R i y H')
    (step : ∀ i x H H' (Acc : V → Hp → Prop) (Nn : Hp → Prop), i < n → Ex H1 H → Ex H1 H' → Y i H x H' → (keep i = true → ∀ y H4, Ex H' H4 → R i y H4 → Acc y H4) → (keep i = false → ∀ H3, Ex H' H3 → Nn H3) →
      g x (wipe σ vs) H' fun σ2 H2 => wipe σ2 vs = wipe σ vs ∧ tt σ2 H2 fun b H3 => if b = true then te σ2 H3 Acc else Nn H3)
    (hd : ∀ ys H', Ex H1 H' → H' D = some (.lst ys) → Paired (fun i y => R i y H') ((List.range n).filter keep) ys → Qd H') :
    ∃ W : Nat → Nat → Hp → Prop, (∃ m, W 0 m (upd H1 D (.lst []))) ∧ ∀ i m H, W i m H →
      (J.stop i H ∧ Qd H) ∨ (J.go i H ∧ ∃ Nx : Hp → Prop, (∀ H', Nx H' → ∃ m', m' < m ∧ W (i + 1) m' H') ∧ ∀ x H', J.yld i H x H' → g x (wipe σ vs) H' fun σ2 H2 => wipe σ2 vs = wipe σ vs ∧ tt σ2 H2 fun b H3 =>
        if b = true then te σ2 H3 fun y H4 => ∃ acc, H4 D = some (.lst acc) ∧ acc.length < sizeLine ∧ Nx (upd H4 D (.lst (acc ++ [y]))) else Nx H3) := by
  refine lc_it wk (fun i H => Ex H1 H ∧ ∃ ys, H D = some (.lst ys) ∧ ys.length ≤ i ∧ Paired (fun i y => R i y H) ((List.range i).filter keep) ys) ⟨Ex.new hD, [], upd_same, Nat.le_refl _, .nil⟩ (fun i H _ p => hG H p.1) ?_ fun H p => ?_
  · rintro i x H H' hi ⟨e, ys, hy, hl, hp⟩ y
    have e' := hY i H x H' y
    refine step i x H H' _ _ hi e (e.trans e') y (fun hk z H4 e4 r => ⟨ys, e4 _ _ (e' _ _ hy), Evl.sz_lt (by omega), Ex.mut ((e.trans e').trans e4) hD, ys ++ [z], upd_same, by rw [List.length_append, List.length_singleton]; omega, ?_⟩) fun hk H3 e3 => ⟨(e.trans e').trans e3, ys, e3 _ _ (e' _ _ hy), by omega, ?_⟩
    · rw [filter_snoc_t hk]
      have e5 : ExT H4 (upd H4 D (.lst (ys ++ [z]))) := ExT.lst (e4 _ _ (e' _ _ hy))
      exact Paired.snoc (Paired.mapP hp fun j u q => mono j u _ _ e5 (mono j u _ _ (ExT.of (e'.trans e4)) q)) (mono _ _ _ _ e5 r)
    · rw [filter_snoc_f hk]
      exact Paired.mapP hp fun j u q => mono j u _ _ (ExT.of (e'.trans e3)) q
  · obtain ⟨e, ys, hy, _, hp⟩ := p
    exact hd ys H e hy hp
end Fq

set_option Elab.async false
set_option linter.all false
set_option maxRecDepth 100000
set_option maxHeartbeats 4000000
/-! The promises: what each def hands back, for what it is asked here; heaps only grow. -/
namespace Fq
open PySem PySem.Spec PyProof.Rows L2
open Evl (Ex)
/-- a sign of a queue: a to z; a step: a sign, or 45 -/
def Letter (c : Nat) : Prop := 97 ≤ c ∧ c ≤ 122
instance (c : Nat) : Decidable (Letter c) := inferInstanceAs (Decidable (_ ∧ _))
def Step (c : Nat) : Prop := Letter c ∨ c = 45
/-- a row that an effect may hold at n -/
def GoodRow (n C : Nat) (r : Row) : Prop := ∀ k w, r = some (k, w) → k ≤ n ∧ k + w.length ≤ C ∧ ∀ c ∈ w, Letter c
/-- its word is of signs -/
def Signs (r : Row) : Prop := ∀ k w, r = some (k, w) → ∀ c ∈ w, c < 1114112
theorem GoodRow.signs {n C : Nat} {r : Row} (h : GoodRow n C r) : Signs r := fun k w e c hc => by
  have := ((h k w e).2.2 c hc).2
  omega
structure GoodRows (C : Nat) (rows : List Row) : Prop where
  len : rows.length = C + 1
  ok : ∀ n r, rows[n]? = some r → GoodRow n C r
/-- an answer: None or a text -/
def optV : Option (List Nat) → V
  | none => .non
  | some q => .str (SX.S q)
def AnsV (H : Hp) (v : V) (as : List (Option (List Nat))) : Prop := ∃ a, v = .ref a ∧ H a = some (.lst (as.map optV))
def FactV (H : Hp) (v : V) (f : Fact) : Prop := ∃ a, v = .ref a ∧ H a = some (.tup [.str (SX.S f.1), optV f.2])
def FactsV (H : Hp) (v : V) (fs : List Fact) : Prop := ∃ a vs, v = .ref a ∧ H a = some (.lst vs) ∧ Paired (FactV H) vs fs
/-- an effect -/
def EffV (C : Addr) (H : Hp) (v : V) (rows : List Row) : Prop := ∃ a dx t, v = .ref a ∧ H a = some (.ins C dx [("all_rows", t)]) ∧ TabV H t rows
def FiveV (K : PySem.W.Frag) (H : Hp) (v : V) (f : Five) : Prop := ∃ a, v = .ref a ∧ SqT K H a [.int f.1, .int f.2.1, .int f.2.2.1, .int f.2.2.2.1, .int f.2.2.2.2]
/-- a program: steps, then perhaps a part with its count -/
abbrev Prg := List Nat × Option (List Nat × Nat)
def Prg.text (p : Prg) : List Nat := p.1 ++ match p.2 with
  | none => []
  | some (s, n) => 40 :: (s ++ 41 :: TL.numL n)
def Prg.its (p : Prg) : List Pc := (if p.1 = [] then [] else [.t p.1]) ++ match p.2 with
  | none => []
  | some (s, n) => [.r (if s = [] then [] else [s]) n]
structure Prg.Ok (p : Prg) : Prop where
  st : ∀ c ∈ p.1, Step c
  len : p.1.length ≤ 1000
  more : ∀ s n, p.2 = some (s, n) → (∀ c ∈ s, Step c) ∧ s.length ≤ 1000 ∧ n ≤ 10 ^ 30
/-- items as a program gives them: few, of bounded texts that are steps -/
def Pc.Ok : Pc → Prop
  | .t s => s.length ≤ 1000 ∧ ∀ c ∈ s, Step c
  | .r b n => b.length ≤ 100 ∧ (∀ s ∈ b, s.length ≤ 1000 ∧ ∀ c ∈ s, Step c) ∧ n ≤ 10 ^ 30
structure ItsOk (is : List Pc) : Prop where
  few : is.length ≤ 100
  ok : ∀ i ∈ is, i.Ok

/-! ### letters -/
def sp_is_integer : Sp := fun vs H Q _ => ∃ n l : Int, vs = [.int n, .int l] ∧ ∀ H', Ex H H' → Q (.bl (decide (l ≤ n))) H'
def sp_is_text_of : Sp := fun vs H Q _ => ∃ a b : List Nat, vs = [.str (SX.S a), .str (SX.S b)] ∧ a.length ≤ 10000 ∧ ∀ H', Ex H H' → Q (.bl (decide (∀ c ∈ a, c ∈ b))) H'
def sp_is_capacity : Sp := fun vs H Q _ => ∃ n : Int, vs = [.int n] ∧ ∀ H', Ex H H' → Q (.bl (decide (1 ≤ n ∧ n ≤ 100))) H'
def sp_check_capacity : Sp := fun vs H Q _ => ∃ n : Int, vs = [.int n] ∧ (1 ≤ n ∧ n ≤ 100) ∧ ∀ H', Ex H H' → Q .non H'
def sp_is_mode : Sp := fun vs H Q _ => ∃ m : Mode, vs = [.str m.s] ∧ ∀ H', Ex H H' → Q (.bl true) H'
def sp_check_mode : Sp := fun vs H Q _ => ∃ m : Mode, vs = [.str m.s] ∧ ∀ H', Ex H H' → Q .non H'
def sp_is_queue : Sp := fun vs H Q _ => ∃ (a : List Nat) (C : Nat), vs = [.str (SX.S a), .int (C : Int)] ∧ (1 ≤ C ∧ C ≤ 100) ∧ a.length ≤ 10000 ∧ (∀ c ∈ a, Letter c) ∧ ∀ H', Ex H H' → Q (.bl (decide (a.length ≤ C))) H'
/-! ### programs -/
def spanEnd (t : List Nat) (i : Nat) (cs : List Nat) : Nat := i + ((t.drop i).takeWhile fun c => decide (c ∈ cs)).length
def sp_span_of : Sp := fun vs H Q _ => ∃ (t cs : List Nat) (i : Nat), vs = [.str (SX.S t), .int (i : Int), .str (SX.S cs)] ∧ i ≤ t.length ∧ t.length ≤ 10000 ∧ ∀ H', Ex H H' → Q (.int (spanEnd t i cs : Nat)) H'
def sp_is_count : Sp := fun vs H Q _ => ∃ n : Nat, vs = [.str (SX.S (TL.numL n))] ∧ n ≤ 10 ^ 30 ∧ ∀ H', Ex H H' → Q (.bl true) H'
def sp_parse : Sp := fun vs H Q _ => ∃ p : Prg, vs = [.str (SX.S p.text)] ∧ p.Ok ∧ ∀ v H', Ex H H' → PrgV H' v p.its → Q v H'
abbrev sp_items_of : Sp := sp_parse
/-! ### effects -/
def sp_is_row : Sp := fun vs H Q _ => ∃ (v : V) (r : Row) (n C : Nat), vs = [v, .int (n : Int), .int (C : Int)] ∧ RowV H v r ∧ GoodRow n C r ∧ (1 ≤ C ∧ C ≤ 100) ∧ ∀ H', Ex H H' → Q (.bl true) H'
def sp_joined_row : Sp := fun vs H Q _ => ∃ (v t : V) (r : Row) (rows : List Row) (C : Nat), vs = [v, t] ∧ RowV H v r ∧ TabV H t rows ∧ OkRow C r ∧ OkRows C rows ∧ C ≤ 100 ∧ ∀ v' H', Ex H H' → RowV H' v' (joinedRow r rows) → Q v' H'
def sp_joined_rows : Sp := fun vs H Q _ => ∃ (t u : V) (a b : List Row) (C : Nat), vs = [t, u] ∧ TabV H t a ∧ TabV H u b ∧ OkRows C a ∧ OkRows C b ∧ C ≤ 100 ∧ ∀ v' H', Ex H H' → TabV H' v' (joinedRows a b) → Q v' H'
def sp_identity_rows : Sp := fun vs H Q _ => ∃ C : Nat, vs = [.int (C : Int)] ∧ C ≤ 100 ∧ ∀ v' H', Ex H H' → TabV H' v' (identityRows C) → Q v' H'
def sp_power_rows : Sp := fun vs H Q _ => ∃ (t : V) (rows : List Row) (C e : Nat), vs = [t, .int (e : Int)] ∧ TabV H t rows ∧ OkRows C rows ∧ C ≤ 100 ∧ ∀ v' H', Ex H H' → TabV H' v' (powerRows rows e) → Q v' H'
/-- Effect.__init__ -/
def sp_init (K : PySem.W.Frag) : Sp := fun vs H Q _ => ∃ (x dx : Addr) (v : V) (rows : List Row) (C : Nat), vs = [.ref x, .int (C : Int), v] ∧ H x = some (.ins (EC K) dx []) ∧ (TabV H v rows ∨ TabL H v rows) ∧ GoodRows C rows ∧ (1 ≤ C ∧ C ≤ 100) ∧
  ∀ H' t, (∀ b o, b ≠ x → H b = some o → H' b = some o) → H' x = some (.ins (EC K) dx [("all_rows", t)]) → TabV H' t rows → Q .non H'
def sp_eq (K : PySem.W.Frag) : Sp := fun vs H Q _ => ∃ (v u : V) (a b : List Row), vs = [v, u] ∧ EffV (EC K) H v a ∧ EffV (EC K) H u b ∧ (∀ r ∈ a, Signs r) ∧ (∀ r ∈ b, Signs r) ∧ ∀ H', Ex H H' → Q (.bl (decide (a = b))) H'
/-! ### profiles -/
def sp_joined (K : PySem.W.Frag) : Sp := fun vs H Q _ => ∃ (v u : V) (f g : Five), vs = [v, u] ∧ FiveV K H v f ∧ FiveV K H u g ∧ ∀ v' H', Ex H H' → FiveV K H' v' (joined f g) → Q v' H'
def sp_repeated (K : PySem.W.Frag) : Sp := fun vs H Q _ => ∃ (v : V) (f : Five) (n : Nat), vs = [v, .int (n : Int)] ∧ FiveV K H v f ∧ ∀ v' H', Ex H H' → FiveV K H' v' (repeated f n) → Q v' H'
def sp_five_of (K : PySem.W.Frag) (d : Nat) : Sp := fun vs H Q _ => ∃ (v : V) (is : List Pc), vs = [v] ∧ PrgV H v is ∧ Deep d is ∧ ItsOk is ∧ ∀ v' H', Ex H H' → FiveV K H' v' (fiveOf is) → Q v' H'
/-- None, or a pair of ints -/
def PairV (H : Hp) (v : V) : Option (Int × Int) → Prop
  | none => v = .non
  | some (a, b) => ∃ p, v = .ref p ∧ H p = some (.tup [.int a, .int b])
def sp_start_range (K : PySem.W.Frag) : Sp := fun vs H Q _ => ∃ (v : V) (f : Five) (C : Int) (m : Mode), vs = [v, .int C, .str m.s] ∧ FiveV K H v f ∧ ∀ v' H', Ex H H' → PairV H' v' (startRange f C m) → Q v' H'
/-! ### running -/
def sp_row_after : Sp := fun vs H Q _ => ∃ (v : V) (r : Row) (s C : Nat) (m : Mode), vs = [v, .str (SX.S [s]), .int (C : Int), .str m.s] ∧ RowV H v r ∧ (∀ k w, r = some (k, w) → w.length ≤ 1000) ∧
  ∀ v' H', Ex H H' → RowV H' v' (rowAfter r s C m) → Q v' H'
def sp_rows_of (d : Nat) : Sp := fun vs H Q _ => ∃ (v : V) (is : List Pc) (C : Nat) (m : Mode), vs = [v, .int (C : Int), .str m.s] ∧ PrgV H v is ∧ Deep d is ∧ ItsOk is ∧ (1 ≤ C ∧ C ≤ 100) ∧ ∀ v' H', Ex H H' → TabV H' v' (rowsOf is C m) → Q v' H'
def sp_effect_of (K : PySem.W.Frag) : Sp := fun vs H Q _ => ∃ (p : Prg) (C : Nat) (m : Mode), vs = [.str (SX.S p.text), .int (C : Int), .str m.s] ∧ p.Ok ∧ (1 ≤ C ∧ C ≤ 100) ∧ ∀ v' H', Ex H H' → EffV (EC K) H' v' (rowsOf p.its C m) → Q v' H'
/-! ### identifying -/
def GoodAns (C : Nat) (as : List (Option (List Nat))) : Prop := as.length = 2 * C + 1 ∧ ∀ q, some q ∈ as → q.length ≤ C ∧ ∀ c ∈ q, Letter c
def sp_check_answers : Sp := fun vs H Q _ => ∃ (C : Nat) (v : V) (as : List (Option (List Nat))), vs = [.int (C : Int), v] ∧ AnsV H v as ∧ GoodAns C as ∧ (1 ≤ C ∧ C ≤ 100) ∧ ∀ H', Ex H H' → Q .non H'
def sp_row_of_answers : Sp := fun vs H Q _ => ∃ (n : Nat) (r : Row) (C : Nat), vs = [.int (n : Int), optV (applyRow r (List.replicate n 97)), optV (applyRow r (List.replicate n 98))] ∧ GoodRow n C r ∧ n ≤ C ∧ C ≤ 100 ∧ ∀ v H', Ex H H' → RowV H' v r → Q v H'
def sp_identify (K : PySem.W.Frag) : Sp := fun vs H Q _ => ∃ (C : Nat) (v : V) (rows : List Row), vs = [.int (C : Int), v] ∧ AnsV H v (answers rows C) ∧ GoodRows C rows ∧ (1 ≤ C ∧ C ≤ 100) ∧ ∀ v' H', Ex H H' → EffV (EC K) H' v' rows → Q v' H'
/-- a fact that may be asked: letters a to z, at most a hundred -/
def GoodFact (f : Fact) : Prop := f.1.length ≤ 100 ∧ (∀ c ∈ f.1, Letter c) ∧ ∀ q, f.2 = some q → q.length ≤ 100 ∧ ∀ c ∈ q, Letter c
def sp_is_fact : Sp := fun vs H Q _ => ∃ (v : V) (f : Fact), vs = [v] ∧ FactV H v f ∧ GoodFact f ∧ ∀ H', Ex H H' → Q (.bl true) H'
def sp_check_facts : Sp := fun vs H Q _ => ∃ (v : V) (fs : List Fact), vs = [v] ∧ FactsV H v fs ∧ (∀ f ∈ fs, GoodFact f) ∧ fs.length ≤ 1000 ∧ ∀ H', Ex H H' → Q .non H'
def sp_row_of_program : Sp := fun vs H Q _ => ∃ (v : V) (is : List Pc) (n C : Nat) (m : Mode), vs = [v, .int (n : Int), .int (C : Int), .str m.s] ∧ PrgV H v is ∧ ItsOk is ∧ (1 ≤ C ∧ C ≤ 100) ∧ n ≤ C ∧ ∀ v' H', Ex H H' → RowV H' v' (rowOfProgram is n C m) → Q v' H'
def sp_result_by_row : Sp := fun vs H Q _ => ∃ (v : V) (is : List Pc) (C : Nat) (m : Mode) (q : List Nat), vs = [v, .int (C : Int), .str m.s, .str (SX.S q)] ∧ PrgV H v is ∧ ItsOk is ∧ (1 ≤ C ∧ C ≤ 100) ∧ q.length ≤ C ∧ ∀ H', Ex H H' → Q (optV (resultByRow is C m q)) H'
def sp_largest_group : Sp := fun vs H Q _ => ∃ (v : V) (a : Addr) (x y : V) (r s : Row), vs = [.ref a] ∧ H a = some (.lst [x, y]) ∧ RowV H x r ∧ RowV H y s ∧ Signs r ∧ Signs s ∧ ∀ H', Ex H H' → Q (.int (if r = s then 2 else 1)) H'
def sp_check_capacities : Sp := fun vs H Q _ => ∃ (a : Addr) (c d : Nat), vs = [.ref a] ∧ H a = some (.lst [.int (c : Int), .int (d : Int)]) ∧ (1 ≤ c ∧ c ≤ 100) ∧ (1 ≤ d ∧ d ≤ 100) ∧ c ≠ d ∧ ∀ H', Ex H H' → Q .non H'
/-- the first length at which two tables part, in the law's words -/
def tellFrom (a b : List Row) : List Nat → Int × Int
  | [] => (0, 2)
  | i :: r => if a.getD i none ≠ b.getD i none then ((i : Int), 1) else tellFrom a b r
def telling (is : List Pc) (m : Mode) (c d : Nat) : Int × Int := tellFrom (rowsOf is c m) (rowsOf is d m) (List.range (min c d + 1))
def sp_telling_length : Sp := fun vs H Q _ => ∃ (p : Prg) (m : Mode) (a : Addr) (c d : Nat), vs = [.str (SX.S p.text), .str m.s, .ref a] ∧ p.Ok ∧ H a = some (.lst [.int (c : Int), .int (d : Int)]) ∧ (1 ≤ c ∧ c ≤ 100) ∧ (1 ≤ d ∧ d ≤ 100) ∧ c ≠ d ∧
  ∀ v' H', Ex H H' → PairV H' v' (some (telling p.its m c d)) → Q v' H'
end Fq

set_option Elab.async false
set_option linter.all false
set_option maxRecDepth 100000
set_option maxHeartbeats 4000000
/-! Loops over anything that stands. -/
namespace Fq
open PySem PySem.Spec PyProof.Rows L2
open Evl (Ex Ex.refl Ex.trans Ex.new Ex.mut fresh_back ex_l ex_t sq_of st_of)
theorem tfor1 {J : L2.It} {n : Nat} {G : Hp → Prop} {Y : Nat → Hp → V → Hp → Prop} (wk : Walk J n G Y) {wi : TI} {g : TG} {tu : TS} {D : Ends} {σ : L2.St} {H H1 : Hp} (hwi : ∀ R : L2.It → Hp → Prop, R J H1 → wi σ H R)
    (Pv : Nat → L2.St → Hp → Prop) (h0 : Pv 0 σ H1) (hG : ∀ i σ H, i ≤ n → Pv i σ H → G H)
    (hs : ∀ i x σ H H', i < n → Pv i σ H → Y i H x H' → g x σ H' fun σ2 H2 => tu { D with nx := Pv (i + 1), ct := Pv (i + 1), bk := D.nx } σ2 H2) (hd : ∀ σ H, Pv n σ H → D.nx σ H) : tFor wi g tu D σ H :=
  hwi _ (for_it wk Pv h0 hG hs hd)
theorem tfor {J : L2.It} {n : Nat} {G : Hp → Prop} {Y : Nat → Hp → V → Hp → Prop} (wk : Walk J n G Y) {wi : TI} {g : TG} {tu tz : TS} {D : Ends} {σ : L2.St} {H H1 : Hp} (hwi : ∀ R : L2.It → Hp → Prop, R J H1 → wi σ H R)
    (Pv : Nat → L2.St → Hp → Prop) (h0 : Pv 0 σ H1) (hG : ∀ i σ H, i ≤ n → Pv i σ H → G H)
    (hs : ∀ i x σ H H', i < n → Pv i σ H → Y i H x H' → g x σ H' fun σ2 H2 => tu { D with nx := Pv (i + 1), ct := Pv (i + 1), bk := tz D } σ2 H2) (hd : ∀ σ H, Pv n σ H → tz D σ H) : tSeq (tFor wi g tu) tz D σ H :=
  tfor1 (D := { D with nx := tz D }) wk hwi Pv h0 hG hs hd
theorem tset_c {x : V} {j : Nat} {tz : TS} {D : Ends} {σ : L2.St} {H : Hp} (h : tz D (σ.set j (some x)) H) : tSeq (tAsg (tC x) (gName j)) tz D σ H := h
/-- behind a call whose value a name takes -/
theorem tset_n {x : V} {j : Nat} {wi : TI} {g : TG} {tu tz : TS} {D : Ends} {σ : L2.St} {H : Hp} (h : tSeq (tFor wi g tu) tz D (σ.set j (some x)) H) : gName j x σ H (tSeq (tFor wi g tu) tz D) := h
theorem tset_n1 {x : V} {j : Nat} {wi : TI} {g : TG} {tu : TS} {D : Ends} {σ : L2.St} {H : Hp} (h : tFor wi g tu D (σ.set j (some x)) H) : gName j x σ H (tFor wi g tu D) := h
theorem fold_snoc {α β : Type} (f : β → α → β) (a : β) {xs : List α} {i : Nat} {x : α} (h : xs[i]? = some x) : (xs.take (i + 1)).foldl f a = f ((xs.take i).foldl f a) x := by
  rw [List.take_add_one, h, List.foldl_append]
  rfl
theorem fold_all {α β : Type} (f : β → α → β) (a : β) {xs : List α} {n : Nat} (h : n = xs.length) : (xs.take n).foldl f a = xs.foldl f a := by
  rw [h, List.take_length]
theorem str_at {s : List Nat} {i c : Nat} (h : (SX.S s).cps[i]? = some c) : s[i]? = some c := by
  have q : s.toArray[i]? = some c := h
  rwa [List.getElem?_toArray] at q
theorem str_size {s : List Nat} : (SX.S s).cps.size = s.length := by
  show s.toArray.size = _
  rw [List.size_toArray]
end Fq

set_option Elab.async false
set_option linter.all false
set_option maxRecDepth 100000
set_option maxHeartbeats 4000000
/-! Rows as plain data: equal by == when equal. -/
namespace Fq
open PySem PySem.Spec PyProof.Rows L2
open Evl (Ex Ex.refl Ex.trans Ex.new Ex.mut fresh_back ex_l ex_t sq_of st_of)
def rowD : Row → PyData
  | none => .none
  | some (k, w) => .tuple [.int (k : Int), .str (SX.S w)]
def tabD (rows : List Row) : PyData := .tuple (rows.map rowD)
theorem dp_row {K : PySem.W.Frag} {H : Hp} {v : V} {r : Row} (h : RowV H v r) : Dp K H v (rowD r) := by
  cases r with
  | none =>
    have e : v = .non := h
    subst e
    exact .non
  | some r =>
    obtain ⟨k, w⟩ := r
    obtain ⟨a, rfl, ha⟩ := h
    exact .tup (.inl (.inl ha)) (.cons (.int _) (.cons (.str _) .nil))
theorem dp_rows {K : PySem.W.Frag} {H : Hp} : ∀ {vs : List V} {rows : List Row}, RowsV H vs rows → DpAll K H vs (rows.map rowD)
  | _, _, .nil => .nil
  | _, _, .cons h t => .cons (dp_row h) (dp_rows t)
theorem dp_tab {K : PySem.W.Frag} {H : Hp} {v : V} {rows : List Row} (h : TabV H v rows) : Dp K H v (tabD rows) := by
  obtain ⟨a, vs, rfl, ha, hv⟩ := h
  exact .tup (.inl (.inl ha)) (dp_rows hv)
theorem lay_row {r : Row} (h : Signs r) : (rowD r).canLay0 = true := by
  cases r with
  | none => rfl
  | some r =>
    obtain ⟨k, w⟩ := r
    have h1 : PyData.strOk (SX.S w) = true := by
      show w.toArray.all _ = true
      rw [List.all_toArray, List.all_eq_true]
      intro c hc
      exact decide_eq_true (h k w rfl c hc)
    simp [rowD, PyData.canLay0, PyData.canLayAll0, h1]
theorem lay_rows : ∀ {rows : List Row}, (∀ r ∈ rows, Signs r) → PyData.canLayAll0 (rows.map rowD) = true
  | [], _ => rfl
  | r :: rows, h => by
    rw [List.map_cons, PyData.canLayAll0, lay_row (h r (List.mem_cons_self ..)), lay_rows fun x hx => h x (List.mem_cons_of_mem _ hx)]
    rfl
theorem depth_row (r : Row) : (rowD r).depth ≤ 1 := by
  cases r with
  | none => exact Nat.zero_le _
  | some r => exact Nat.le_refl 1
theorem depth_rows : ∀ rows : List Row, PyData.depthAll (rows.map rowD) ≤ 1
  | [] => Nat.zero_le _
  | r :: rows => by
    rw [List.map_cons, PyData.depthAll]
    exact Nat.max_le.mpr ⟨depth_row r, depth_rows rows⟩
theorem shaped_row {r : Row} (h : Signs r) : SeqAt.shaped (rowD r) = true := by
  unfold SeqAt.shaped
  rw [lay_row h, decide_eq_true (Nat.le_trans (depth_row r) (by decide))]
  rfl
theorem shaped_tab {rows : List Row} (h : ∀ r ∈ rows, Signs r) : SeqAt.shaped (tabD rows) = true := by
  unfold SeqAt.shaped tabD
  rw [PyData.canLay0, lay_rows h, PyData.depth, decide_eq_true (Nat.le_trans (Nat.succ_le_succ (depth_rows rows)) (by decide))]
  rfl
theorem eqv_row (r s : Row) : PyData.eqv (rowD r) (rowD s) = decide (r = s) := by
  cases r with
  | none =>
    cases s with
    | none => rfl
    | some s => rfl
  | some r =>
    obtain ⟨k, w⟩ := r
    cases s with
    | none => rfl
    | some s =>
      obtain ⟨k', w'⟩ := s
      show ((k : Int) == (k' : Int) && (SX.S w == SX.S w' && true)) = _
      rw [Bool.and_true]
      by_cases h1 : k = k'
      · by_cases h2 : w = w'
        · subst h1 h2
          simp
        · have h3 : (SX.S w == SX.S w') = false := beq_eq_false_iff_ne.mpr fun q => h2 (SX.S_inj q)
          rw [h3, Bool.and_false, decide_eq_false]
          intro q
          cases q
          exact h2 rfl
      · have h3 : ((k : Int) == (k' : Int)) = false := beq_eq_false_iff_ne.mpr fun q => h1 (Int.ofNat.inj q)
        rw [h3, Bool.false_and, decide_eq_false]
        intro q
        cases q
        exact h1 rfl
theorem eqv_rows : ∀ (a b : List Row), PyData.eqvAll (a.map rowD) (b.map rowD) = decide (a = b)
  | [], [] => rfl
  | [], _ :: _ => rfl
  | _ :: _, [] => rfl
  | r :: a, s :: b => by
    rw [List.map_cons, List.map_cons, PyData.eqvAll, eqv_row, eqv_rows a b, Bool.eq_iff_iff]
    simp
theorem eqv_tab (a b : List Row) : PyData.eqv (tabD a) (tabD b) = decide (a = b) := eqv_rows a b
end Fq

set_option Elab.async false
set_option linter.all false
set_option maxRecDepth 100000
set_option maxHeartbeats 4000000
/-! Texts of programs: spans, slices, digits. -/
namespace Fq
open PySem PySem.Spec PyProof.Rows L2
theorem slice2 (a b c : List Nat) {i j : Int} (hi : i = (a.length : Int)) (hj : j = ((a.length + b.length : Nat) : Int)) : Txt.slice (SX.S (a ++ (b ++ c))) (some i) (some j) = SX.S b := by
  have hl : ((SX.S (a ++ (b ++ c))).length : Int) = ((a.length + (b.length + c.length) : Nat) : Int) := by rw [Slen, List.length_append, List.length_append]
  have e := beq_iff_eq.mp (PyProof.Rows.slice_closesL (x := SX.S (a ++ (b ++ c))) (i := i) (j := j) (by omega) (by omega) (by omega))
  refine e.trans (TL.ext_tl ?_)
  show ((a ++ (b ++ c)).drop i.toNat).take (j - i).toNat = b
  rw [show i.toNat = a.length by omega, show (j - i).toNat = b.length by omega, List.drop_left, List.take_left]
theorem span_eq {a b c cs : List Nat} (hb : ∀ x ∈ b, x ∈ cs) (hc : ∀ x, c.head? = some x → x ∉ cs) : spanEnd (a ++ (b ++ c)) a.length cs = a.length + b.length := by
  unfold spanEnd
  rw [List.drop_left, List.takeWhile_append_of_pos (fun x hx => decide_eq_true (hb x hx))]
  have e : c.takeWhile (fun x => decide (x ∈ cs)) = [] := by
    cases c with
    | nil => rfl
    | cons x c => rw [List.takeWhile_cons_of_neg]; simpa using hc x rfl
  rw [e, List.append_nil]
def stepsL : List Nat := List.range' 97 26 ++ [45]
theorem steps_S : ("abcdefghijklmnopqrstuvwxyz-" : Str) = SX.S stepsL := by decide +kernel
theorem digits_S : ("0123456789" : Str) = SX.S (List.range' 48 10) := by decide +kernel
theorem mem_steps {c : Nat} : c ∈ stepsL ↔ Step c := by
  unfold stepsL Step Letter
  rw [List.mem_append, List.mem_range'_1, List.mem_singleton]
  omega
theorem mem_digits {c : Nat} : c ∈ List.range' 48 10 ↔ 48 ≤ c ∧ c ≤ 57 := by
  rw [List.mem_range'_1]
  omega
theorem S_at {l : List Nat} {i : Int} {j c : Nat} (h : i = (j : Int)) (q : l[j]? = some c) : atI (SX.S l).cps.toList i = some c := by
  subst h
  show atI l.toArray.toList _ = _
  exact atI_nat q
theorem paren_S : ("(" : Str) = SX.S [40] := by decide +kernel
theorem close_S : (")" : Str) = SX.S [41] := by decide +kernel
theorem zero_S : ("0" : Str) = SX.S [48] := by decide +kernel
theorem empty_S : ("" : Str) = SX.S [] := by decide +kernel
theorem sign_eq {c d : Nat} : (V.str ⟨#[c]⟩ = V.str (SX.S [d])) ↔ c = d := by
  show (V.str (SX.S [c]) = V.str (SX.S [d])) ↔ c = d
  rw [S_eq]
  exact ⟨fun h => List.head_eq_of_cons_eq h, fun h => by rw [h]⟩
theorem num_head (n : Nat) (h : n ≠ 0) : ∀ c, (TL.numL n).head? = some c → c ≠ 48 := by
  induction n using Nat.strongRecOn with
  | _ n ih =>
    intro c hc
    by_cases h1 : n < 10
    · rw [TL.numL_lt h1] at hc
      have e : c = 48 + n := (Option.some.inj hc).symm
      omega
    · obtain ⟨x, xs, hx⟩ := List.exists_cons_of_ne_nil (TL.numL_ne (n / 10))
      rw [TL.numL_step (by omega), hx] at hc
      have hc : (TL.numL (n / 10)).head? = some c := by rw [hx]; exact hc
      exact ih (n / 10) (by omega) (by omega) c hc
theorem num_zero : TL.numL 0 = [48] := TL.numL_lt (by decide)
theorem num_len {n : Nat} (h : n ≤ 10 ^ 30) : (TL.numL n).length ≤ 31 := TL.numL_len (by decide) (Nat.lt_of_le_of_lt h (by decide))
theorem num_int {n : Nat} (h : n ≤ 10 ^ 30) : PySem.intText? (SX.S (TL.numL n)) = some (n : Int) := by
  rw [SX.int_S (List.all_eq_true.mpr fun c hc => ?_) (TL.numL_ne n) (by have := num_len h; omega), TL.numL_val]
  have := TL.numL_digits n c hc
  simpa using this
theorem num_dig {n c : Nat} (h : c ∈ TL.numL n) : 48 ≤ c ∧ c ≤ 57 := by
  have := TL.numL_digits n c h
  simpa using this
theorem text_len {p : Prg} (h : p.Ok) : p.text.length ≤ 10000 := by
  obtain ⟨h1, h2, h3⟩ := h
  obtain ⟨a, b⟩ := p
  cases b with
  | none =>
    simp only [Prg.text, List.append_nil]
    simp only at h2
    omega
  | some b =>
    obtain ⟨s, n⟩ := b
    obtain ⟨_, h4, h5⟩ := h3 s n rfl
    have := num_len h5
    simp only [Prg.text, List.length_append, List.length_cons]
    simp only at h2
    omega
end Fq
namespace Fq
open PySem PySem.Spec PyProof.Rows L2
theorem text_part {p : Prg} {s : List Nat} {n : Nat} (h : p.2 = some (s, n)) : p.text = p.1 ++ (40 :: (s ++ 41 :: TL.numL n)) := by
  unfold Prg.text
  rw [h]
theorem text_none {p : Prg} (h : p.2 = none) : p.text = p.1 := by
  unfold Prg.text
  rw [h]
  exact List.append_nil _
theorem not_step40 : ¬ (40 ∈ stepsL) := by decide
theorem not_step41 : ¬ (41 ∈ stepsL) := by decide
theorem text_0 {p : Prg} (ok : p.Ok) : spanEnd p.text 0 stepsL = p.1.length ∧ Txt.slice (SX.S p.text) (some 0) (some (p.1.length : Int)) = SX.S p.1 := by
  have e : ∃ r, p.text = [] ++ (p.1 ++ r) ∧ ∀ x, r.head? = some x → x ∉ stepsL := by
    cases h : p.2 with
    | none => exact ⟨[], by rw [text_none h]; simp, fun x q => nomatch q⟩
    | some r =>
      obtain ⟨s, n⟩ := r
      exact ⟨_, by rw [text_part h]; rfl, fun x q => by cases q; exact not_step40⟩
  obtain ⟨r, e, hr⟩ := e
  constructor
  · have q := span_eq (a := []) (b := p.1) (c := r) (cs := stepsL) (fun x hx => mem_steps.mpr (ok.st x hx)) hr
    rw [← e] at q
    rw [show spanEnd p.text 0 stepsL = _ from q]
    exact Nat.zero_add _
  · rw [e]
    exact slice2 [] p.1 r rfl (by simp)
theorem text_1 {p : Prg} {s : List Nat} {n : Nat} (h : p.2 = some (s, n)) : spanEnd p.text p.1.length stepsL = p.1.length ∧ p.text[p.1.length]? = some 40 ∧ p.1.length < p.text.length := by
  rw [text_part h]
  refine ⟨?_, by simp, by simp⟩
  exact span_eq (a := p.1) (b := []) (c := 40 :: (s ++ 41 :: TL.numL n)) (fun x hx => nomatch hx) (fun x q => by cases q; exact not_step40)
theorem text_2 {p : Prg} {s : List Nat} {n : Nat} (ok : p.Ok) (h : p.2 = some (s, n)) : spanEnd p.text (p.1.length + 1) stepsL = p.1.length + 1 + s.length ∧
    Txt.slice (SX.S p.text) (some ((p.1.length + 1 : Nat) : Int)) (some ((p.1.length + 1 + s.length : Nat) : Int)) = SX.S s ∧ p.1.length + 1 < p.text.length := by
  have e : p.text = (p.1 ++ [40]) ++ (s ++ (41 :: TL.numL n)) := by rw [text_part h]; simp
  rw [e]
  have hl : (p.1 ++ [40]).length = p.1.length + 1 := by simp
  refine ⟨?_, slice2 _ s _ (by rw [hl]) (by rw [hl]), by rw [List.length_append, hl]; simp; omega⟩
  have q := span_eq (a := p.1 ++ [40]) (b := s) (c := 41 :: TL.numL n) (cs := stepsL) (fun x hx => mem_steps.mpr ((ok.more s n h).1 x hx)) (fun x q => by cases q; exact not_step41)
  rwa [hl] at q
theorem text_3 {p : Prg} {s : List Nat} {n : Nat} (h : p.2 = some (s, n)) : spanEnd p.text (p.1.length + 1 + s.length) stepsL = p.1.length + 1 + s.length ∧ p.text[p.1.length + 1 + s.length]? = some 41 ∧
    p.1.length + 1 + s.length < p.text.length ∧ spanEnd p.text (p.1.length + 1 + s.length + 1) (List.range' 48 10) = p.text.length ∧
    Txt.slice (SX.S p.text) (some ((p.1.length + 1 + s.length + 1 : Nat) : Int)) (some (p.text.length : Int)) = SX.S (TL.numL n) := by
  have e : p.text = (p.1 ++ 40 :: s) ++ (41 :: TL.numL n) := by rw [text_part h]; simp
  have e2 : p.text = (p.1 ++ 40 :: (s ++ [41])) ++ (TL.numL n ++ []) := by rw [text_part h]; simp
  have hl : (p.1 ++ 40 :: s).length = p.1.length + 1 + s.length := by simp; omega
  have hl2 : (p.1 ++ 40 :: (s ++ [41])).length = p.1.length + 1 + s.length + 1 := by simp; omega
  have htl : p.text.length = p.1.length + 1 + s.length + 1 + (TL.numL n).length := by rw [text_part h]; simp; omega
  refine ⟨?_, ?_, by omega, ?_, ?_⟩
  · have q := span_eq (a := p.1 ++ 40 :: s) (b := []) (c := 41 :: TL.numL n) (cs := stepsL) (fun x hx => nomatch hx) (fun x q => by cases q; exact not_step41)
    rw [hl] at q
    rw [e]
    exact q
  · rw [e, ← hl]
    simp
  · have q := span_eq (a := p.1 ++ 40 :: (s ++ [41])) (b := TL.numL n) (c := []) (cs := List.range' 48 10) (fun x hx => mem_digits.mpr (num_dig hx)) (fun x q => nomatch q)
    rw [hl2, ← e2] at q
    omega
  · have q := slice2 (p.1 ++ 40 :: (s ++ [41])) (TL.numL n) [] (i := ((p.1.length + 1 + s.length + 1 : Nat) : Int)) (j := (p.text.length : Int)) (by rw [hl2]) (by rw [hl2, htl])
    rwa [← e2] at q
end Fq

set_option Elab.async false
set_option linter.all false
set_option maxRecDepth 100000
set_option maxHeartbeats 4000000
/-! Rows that an effect may hold: kept by every step. -/
namespace Fq
theorem goodRow_after {n C s : Nat} {m : Mode} {r : Row} (h : GoodRow n C r) (hs : Step s) (hC : 1 ≤ C) : GoodRow n C (rowAfter r s C m) := by
  cases r with
  | none => exact fun _ _ e => nomatch e
  | some r =>
    obtain ⟨k, w⟩ := r
    obtain ⟨h1, h2, h3⟩ := h k w rfl
    have hd : ∀ c ∈ w.drop 1, Letter c := fun c hc => h3 c (List.mem_of_mem_drop hc)
    have app : ∀ {x : List Nat}, s ≠ 45 → (∀ c ∈ x, Letter c) → ∀ c ∈ x ++ [s], Letter c := fun hs' hx c hc => by
      rcases List.mem_append.mp hc with q | q
      · exact hx c q
      · rw [List.mem_singleton.mp q]
        exact hs.resolve_right hs'
    intro k' w' e
    unfold rowAfter at e
    simp only at e
    split at e
    · split at e
      · cases e
      · split at e
        · cases e
          exact ⟨by omega, by omega, h3⟩
        · cases e
          exact ⟨Nat.zero_le _, by rw [List.length_drop]; omega, hd⟩
    · rename_i hs'
      split at e
      · cases e
        exact ⟨h1, by rw [List.length_append, List.length_singleton]; omega, app hs' h3⟩
      · cases m with
        | oldest =>
          simp only at e
          split at e
          · cases e
            exact ⟨by omega, by rw [List.length_append, List.length_singleton]; omega, app hs' h3⟩
          · cases e
            refine ⟨Nat.zero_le _, ?_, app hs' hd⟩
            rw [List.length_append, List.length_singleton, List.length_drop]
            omega
        | newest =>
          cases e
          exact ⟨h1, h2, h3⟩
        | strict => cases e
theorem goodRow_joined {n C : Nat} {r : Row} {rows : List Row} (h : GoodRow n C r) (hr : GoodRows C rows) : GoodRow n C (joinedRow r rows) := by
  cases r with
  | none => exact fun _ _ e => nomatch e
  | some r =>
    obtain ⟨k, w⟩ := r
    obtain ⟨h1, h2, h3⟩ := h k w rfl
    intro k' w' e
    unfold joinedRow at e
    simp only at e
    have hlt : k + w.length < rows.length := by rw [hr.len]; omega
    rw [List.getD_eq_getElem?_getD, List.getElem?_eq_getElem hlt, Option.getD_some] at e
    have hg := hr.ok (k + w.length) _ (List.getElem?_eq_getElem hlt)
    cases q : rows[k + w.length] with
    | none =>
      rw [q] at e
      cases e
    | some r2 =>
      obtain ⟨k2, w2⟩ := r2
      rw [q] at e hg
      obtain ⟨g1, g2, g3⟩ := hg k2 w2 rfl
      simp only at e
      split at e
      · cases e
        refine ⟨Nat.zero_le _, ?_, fun c hc => ?_⟩
        · rw [List.length_append, List.length_drop]
          omega
        · rcases List.mem_append.mp hc with q | q
          · exact h3 c (List.mem_of_mem_drop q)
          · exact g3 c q
      · cases e
        refine ⟨by omega, ?_, fun c hc => ?_⟩
        · rw [List.length_append]
          omega
        · rcases List.mem_append.mp hc with q | q
          · exact h3 c q
          · exact g3 c q
theorem goodRows_map {C : Nat} {rows : List Row} {f : Row → Row} (h : GoodRows C rows) (hf : ∀ n r, GoodRow n C r → GoodRow n C (f r)) : GoodRows C (rows.map f) := by
  refine ⟨by rw [List.length_map, h.len], fun n r e => ?_⟩
  rw [List.getElem?_map] at e
  obtain ⟨r0, h0, rfl⟩ := Option.map_eq_some_iff.mp e
  exact hf n r0 (h.ok n r0 h0)
theorem goodRows_identity (C : Nat) : GoodRows C (identityRows C) := by
  refine ⟨by unfold identityRows; rw [List.length_map, List.length_range], fun n r e => ?_⟩
  unfold identityRows at e
  rw [List.getElem?_map] at e
  obtain ⟨i, h0, rfl⟩ := Option.map_eq_some_iff.mp e
  obtain ⟨h1, h2⟩ := List.getElem?_eq_some_iff.mp h0
  rw [List.getElem_range] at h2
  rw [List.length_range] at h1
  intro k w e
  cases e
  exact ⟨by omega, by show i + 0 ≤ C; omega, fun c hc => nomatch hc⟩
theorem goodRows_joined {C : Nat} {a b : List Row} (ha : GoodRows C a) (hb : GoodRows C b) : GoodRows C (joinedRows a b) := goodRows_map ha fun _ _ h => goodRow_joined h hb
theorem goodRows_step {C c : Nat} {m : Mode} {rows : List Row} (h : GoodRows C rows) (hs : Step c) (hC : 1 ≤ C) : GoodRows C (stepRows C m rows c) := goodRows_map h fun _ _ q => goodRow_after q hs hC
theorem goodRows_steps {C : Nat} {m : Mode} (hC : 1 ≤ C) : ∀ (s : List Nat) {rows : List Row}, (∀ c ∈ s, Step c) → GoodRows C rows → GoodRows C (s.foldl (stepRows C m) rows)
  | [], _, _, h => h
  | c :: s, _, hs, h => goodRows_steps hC s (fun x hx => hs x (List.mem_cons_of_mem _ hx)) (goodRows_step h (hs c (List.mem_cons_self ..)) hC)
theorem goodRows_power_loop {C : Nat} (n : Nat) : ∀ {found factor : List Row}, GoodRows C found → GoodRows C factor → GoodRows C (powerLoop found factor n) := by
  induction n using Nat.strongRecOn with
  | _ n ih =>
    intro found factor h1 h2
    rw [powerLoop]
    split
    · exact h1
    · refine ih (n / 2) (by omega) ?_ (goodRows_joined h2 h2)
      split
      · exact goodRows_joined h1 h2
      · exact h1
theorem goodRows_power {C : Nat} {rows : List Row} (h : GoodRows C rows) (n : Nat) : GoodRows C (powerRows rows n) := by
  unfold powerRows
  refine goodRows_power_loop n ?_ h
  rw [h.len]
  exact goodRows_identity C
theorem goodRows_flat {C : Nat} {m : Mode} (hC : 1 ≤ C) (b : List (List Nat)) (hb : ∀ s ∈ b, ∀ c ∈ s, Step c) : GoodRows C (rowsFlat b C m) := by
  unfold rowsFlat
  have key : ∀ (b : List (List Nat)) (rows : List Row), (∀ s ∈ b, ∀ c ∈ s, Step c) → GoodRows C rows → GoodRows C (b.foldl (fun rows s => s.foldl (stepRows C m) rows) rows) := by
    intro b
    induction b with
    | nil => exact fun _ _ h => h
    | cons s b ih => exact fun rows hb h => ih _ (fun x hx => hb x (List.mem_cons_of_mem _ hx)) (goodRows_steps hC s (hb s (List.mem_cons_self ..)) h)
  exact key b _ hb (goodRows_identity C)
theorem goodRows_item {C : Nat} {m : Mode} (hC : 1 ≤ C) {rows : List Row} (h : GoodRows C rows) {i : Pc} (hi : i.Ok) : GoodRows C (rowsItem C m rows i) := by
  cases i with
  | t s => exact goodRows_steps hC s hi.2 h
  | r b n => exact goodRows_joined h (goodRows_power (goodRows_flat hC b fun s hs => (hi.2.1 s hs).2) n)
theorem goodRows_of {C : Nat} {m : Mode} (hC : 1 ≤ C) {is : List Pc} (h : ItsOk is) : GoodRows C (rowsOf is C m) := by
  unfold rowsOf
  have key : ∀ (is : List Pc) (rows : List Row), (∀ i ∈ is, i.Ok) → GoodRows C rows → GoodRows C (is.foldl (rowsItem C m) rows) := by
    intro is
    induction is with
    | nil => exact fun _ _ h => h
    | cons i is ih => exact fun rows hb h => ih _ (fun x hx => hb x (List.mem_cons_of_mem _ hx)) (goodRows_item hC h (hb i (List.mem_cons_self ..)))
  exact key is _ h.ok (goodRows_identity C)
theorem its_ok {p : Prg} (h : p.Ok) : ItsOk p.its := by
  obtain ⟨a, b⟩ := p
  obtain ⟨h1, h2, h3⟩ := h
  refine ⟨?_, fun i hi => ?_⟩
  · unfold Prg.its
    rw [List.length_append]
    have e1 : (if a = [] then ([] : List Pc) else [.t a]).length ≤ 1 := by split <;> simp
    cases b with
    | none => exact Nat.le_trans (Nat.add_le_add e1 (Nat.zero_le 0)) (by decide)
    | some b => exact Nat.le_trans (Nat.add_le_add e1 (Nat.le_refl 1)) (by decide)
  · unfold Prg.its at hi
    rcases List.mem_append.mp hi with q | q
    · simp only at q
      split at q
      · cases q
      · rw [List.mem_singleton.mp q]
        exact ⟨h2, h1⟩
    · cases b with
      | none => cases q
      | some b =>
        obtain ⟨s, n⟩ := b
        rw [List.mem_singleton.mp q]
        obtain ⟨h4, h5, h6⟩ := h3 s n rfl
        refine ⟨by split <;> simp, fun x hx => ?_, h6⟩
        split at hx
        · cases hx
        · rw [List.mem_singleton.mp hx]
          exact ⟨h5, h4⟩
end Fq

set_option Elab.async false
set_option linter.all false
set_option maxRecDepth 100000
set_option maxHeartbeats 4000000
/-! The tests, the answers, a row told by its two answers. -/
namespace Fq
open PySem PySem.Spec PyProof.Rows L2
theorem tests_succ (C : Nat) : tests (C + 1) = tests C ++ [List.replicate (C + 1) 97, List.replicate (C + 1) 98] := by
  unfold tests
  rw [List.range_succ, List.flatMap_append]
  simp
theorem tests_len (C : Nat) : (tests C).length = 2 * C + 1 := by
  induction C with
  | zero => rfl
  | succ C ih =>
    rw [tests_succ, List.length_append, ih]
    show 2 * C + 1 + 2 = _
    omega
theorem tests_a (C : Nat) : ∀ i, i < C → (tests C)[2 * i + 1]? = some (List.replicate (i + 1) 97) ∧ (tests C)[2 * i + 2]? = some (List.replicate (i + 1) 98) := by
  induction C with
  | zero => exact fun i h => absurd h (Nat.not_lt_zero _)
  | succ C ih =>
    intro i hi
    rw [tests_succ]
    by_cases h : i < C
    · obtain ⟨h1, h2⟩ := ih i h
      rw [List.getElem?_append_left (by rw [tests_len]; omega), List.getElem?_append_left (by rw [tests_len]; omega)]
      exact ⟨h1, h2⟩
    · have e : i = C := by omega
      subst e
      rw [List.getElem?_append_right (by rw [tests_len]; omega), List.getElem?_append_right (by rw [tests_len]; omega), tests_len, show 2 * i + 1 - (2 * i + 1) = 0 by omega, show 2 * i + 2 - (2 * i + 1) = 1 by omega]
      exact ⟨rfl, rfl⟩
theorem tests_mem {C : Nat} {q : List Nat} (h : q ∈ tests C) : q.length ≤ C ∧ ∀ c ∈ q, Letter c := by
  unfold tests at h
  rcases List.mem_cons.mp h with h | h
  · subst h
    exact ⟨Nat.zero_le _, fun c hc => nomatch hc⟩
  · obtain ⟨i, hi, hq⟩ := List.mem_flatMap.mp h
    have hi := List.mem_range.mp hi
    rcases List.mem_cons.mp hq with e | hq
    · subst e
      exact ⟨by rw [List.length_replicate]; omega, fun c hc => by rw [(List.mem_replicate.mp hc).2]; exact ⟨by decide, by decide⟩⟩
    · rw [List.mem_singleton.mp hq]
      exact ⟨by rw [List.length_replicate]; omega, fun c hc => by rw [(List.mem_replicate.mp hc).2]; exact ⟨by decide, by decide⟩⟩
theorem result_good {C : Nat} {rows : List Row} (h : GoodRows C rows) {q t : List Nat} (hq : q.length ≤ C) (hl : ∀ c ∈ q, Letter c) (e : resultOf rows q = some t) : t.length ≤ C ∧ ∀ c ∈ t, Letter c := by
  unfold resultOf at e
  have hlt : q.length < rows.length := by rw [h.len]; omega
  rw [List.getD_eq_getElem?_getD, List.getElem?_eq_getElem hlt, Option.getD_some] at e
  have hg := h.ok q.length _ (List.getElem?_eq_getElem hlt)
  cases hr : rows[q.length] with
  | none =>
    rw [hr] at e
    cases e
  | some r =>
    obtain ⟨k, w⟩ := r
    rw [hr] at e hg
    obtain ⟨h1, h2, h3⟩ := hg k w rfl
    have e : q.drop (q.length - k) ++ w = t := Option.some.inj e
    subst e
    refine ⟨by rw [List.length_append, List.length_drop]; omega, fun c hc => ?_⟩
    rcases List.mem_append.mp hc with x | x
    · exact hl c (List.mem_of_mem_drop x)
    · exact h3 c x
theorem answers_good {C : Nat} {rows : List Row} (h : GoodRows C rows) : GoodAns C (answers rows C) := by
  refine ⟨by unfold answers; rw [List.length_map, tests_len], fun q hq => ?_⟩
  obtain ⟨t, ht, e⟩ := List.mem_map.mp hq
  obtain ⟨h1, h2⟩ := tests_mem ht
  exact result_good h h1 h2 e
theorem apply_rep {n k c : Nat} {w : List Nat} (h : k ≤ n) : applyRow (some (k, w)) (List.replicate n c) = some (List.replicate k c ++ w) := by
  unfold applyRow
  simp only
  rw [List.drop_replicate, List.length_replicate, show n - (n - k) = k by omega]
theorem times_one (n c : Nat) : times n [c] = List.replicate n c := by
  unfold times
  induction n with
  | zero => rfl
  | succ n ih =>
    rw [List.replicate_succ, List.flatten_cons, ih]
    rfl
theorem slice_one {l : List Nat} {i c : Nat} {j : Int} (h : l[i]? = some c) (hj : j = (i : Int) + 1) : Txt.slice (SX.S l) (some (i : Int)) (some j) = SX.S [c] := by
  obtain ⟨h1, h2⟩ := List.getElem?_eq_some_iff.mp h
  have e : l = l.take i ++ ([c] ++ l.drop (i + 1)) := by
    rw [← h2]
    show l = l.take i ++ (l[i] :: l.drop (i + 1))
    rw [← List.drop_eq_getElem_cons h1, List.take_append_drop]
  have hl : (l.take i).length = i := by rw [List.length_take]; omega
  have q := slice2 (l.take i) [c] (l.drop (i + 1)) (i := (i : Int)) (j := j) (by rw [hl]) (by rw [hl, hj]; simp)
  rwa [← e] at q
theorem filter_lt {n k : Nat} (h : k ≤ n) : ((List.range n).filter fun i => decide (i < k)).length = k := by
  induction n with
  | zero =>
    have e : k = 0 := by omega
    subst e
    rfl
  | succ n ih =>
    by_cases hk : k ≤ n
    · rw [filter_snoc_f (decide_eq_false (by omega)), ih hk]
    · have e : k = n + 1 := by omega
      subst e
      rw [List.filter_eq_self.mpr fun i hi => decide_eq_true (List.mem_range.mp hi), List.length_range]
theorem a_S : ("a" : Str) = SX.S [97] := by decide +kernel
theorem b_S : ("b" : Str) = SX.S [98] := by decide +kernel
theorem ans_at {C : Nat} {rows : List Row} {j : Nat} {q : List Nat} (h : (tests C)[j]? = some q) : (answers rows C)[j]? = some (resultOf rows q) := by
  unfold answers
  rw [List.getElem?_map, h]
  rfl
theorem resultOf_rep {C n c : Nat} {rows : List Row} (h : GoodRows C rows) (hn : n ≤ C) : ∃ r, rows[n]? = some r ∧ GoodRow n C r ∧ resultOf rows (List.replicate n c) = applyRow r (List.replicate n c) := by
  have hlt : n < rows.length := by rw [h.len]; omega
  refine ⟨rows[n], List.getElem?_eq_getElem hlt, h.ok n _ (List.getElem?_eq_getElem hlt), ?_⟩
  unfold resultOf
  rw [List.length_replicate, List.getD_eq_getElem?_getD, List.getElem?_eq_getElem hlt, Option.getD_some]
theorem okRow_item {C : Nat} {m : Mode} (hC : 1 ≤ C) {r : Row} (h : OkRow C r) (i : Pc) : OkRow C (rowItem C m r i) := by
  cases i with
  | t s =>
    unfold rowItem
    induction s generalizing r with
    | nil => exact h
    | cons c s ih => exact ih (okRow_after h hC)
  | r b n =>
    have hb := okRows_flat (m := m) hC b
    have key : ∀ k, OkRow C ((List.range k).foldl (fun r _ => joinedRow r (rowsFlat b C m)) r) := fun k => by
      induction k with
      | zero => exact h
      | succ k ih =>
        rw [List.range_succ, List.foldl_append]
        exact okRow_joined ih hb
    exact key _
theorem okRow_rows {C : Nat} {m : Mode} (hC : 1 ≤ C) : ∀ (is : List Pc) {r : Row}, OkRow C r → OkRow C (is.foldl (rowItem C m) r)
  | [], _, h => h
  | i :: is, _, h => okRow_rows hC is (okRow_item hC h i)
end Fq
namespace Fq
theorem goodRow_item {n C : Nat} {m : Mode} (hC : 1 ≤ C) {r : Row} (h : GoodRow n C r) {i : Pc} (hi : i.Ok) : GoodRow n C (rowItem C m r i) := by
  cases i with
  | t s =>
    obtain ⟨_, hs⟩ := hi
    unfold rowItem
    induction s generalizing r with
    | nil => exact h
    | cons c s ih => exact ih (goodRow_after h (hs c (List.mem_cons_self ..)) hC) (by rename_i h1; exact Nat.le_of_succ_le h1) fun x hx => hs x (List.mem_cons_of_mem _ hx)
  | r b k =>
    have hb := goodRows_flat (m := m) hC b fun s hs => (hi.2.1 s hs).2
    have key : ∀ k, GoodRow n C ((List.range k).foldl (fun r _ => joinedRow r (rowsFlat b C m)) r) := fun k => by
      induction k with
      | zero => exact h
      | succ k ih =>
        rw [List.range_succ, List.foldl_append]
        exact goodRow_joined ih hb
    exact key _
theorem goodRow_prog {n C : Nat} {m : Mode} (hC : 1 ≤ C) (hn : n ≤ C) {is : List Pc} (h : ItsOk is) : GoodRow n C (rowOfProgram is n C m) := by
  unfold rowOfProgram
  have key : ∀ (is : List Pc) (r : Row), (∀ i ∈ is, i.Ok) → GoodRow n C r → GoodRow n C (is.foldl (rowItem C m) r) := by
    intro is
    induction is with
    | nil => exact fun _ _ h => h
    | cons i is ih => exact fun r hb h => ih _ (fun x hx => hb x (List.mem_cons_of_mem _ hx)) (goodRow_item hC h (hb i (List.mem_cons_self ..)))
  refine key is _ h.ok fun k w e => ?_
  cases e
  exact ⟨Nat.le_refl _, by simpa using hn, fun c hc => nomatch hc⟩
end Fq

set_option Elab.async false
set_option linter.all false
set_option maxRecDepth 100000
set_option maxHeartbeats 4000000
/-! Rules that the hand layer lacks: text * int, max of three, a star target, enumerate of a tuple and of a text, == by an own __eq__. -/
namespace Fq
open PySem PySem.Spec PyProof.Rows L2
section
variable {X : Cx}
theorem foldl_reps (a : Array Nat) : ∀ (n : Nat) (b : Array Nat), ((List.replicate n a).foldl (· ++ ·) b).toList = b.toList ++ times n a.toList
  | 0, b => by simp [times]
  | n + 1, b => by
    rw [List.replicate_succ, List.foldl_cons, foldl_reps a n]
    simp [times, List.replicate_succ]
/-- a text n times (n may be negative) -/
theorem op_mul_str : OpR X (binaryOp .Mult) (fun x y H Q => ∃ (l : List Nat) (i : Int), x = .str (SX.S l) ∧ y = .int i ∧ (-1000000 ≤ i ∧ i ≤ 1000000) ∧ l.length ≤ 1000000 ∧ l.length * i.toNat ≤ 1000000 ∧ Q (.str (SX.S (times i.toNat l))) H) := by
  rintro pins s σ H x y v u Q I rx ry ⟨l, i, rfl, rfl, hi, hl0, hl, q⟩
  obtain ⟨t, rfl⟩ := rx
  obtain ⟨t', rfl⟩ := ry
  have hlen : (SX.S l).length = l.length := Slen l
  refine P.mul_str (n := i) (by rw [decide_eq_false (by omega), decide_eq_false (by omega)]; rfl) (fun h1 _ => ?_) (fun h1 _ => ?_) ?_
  · rw [hlen]
    have h2 : (1000000 : Int) ≤ (2 ^ 63 - 1) / i := (Int.le_ediv_iff_mul_le (by omega)).mpr (by omega)
    omega
  · rw [hlen]
    unfold Builtin.Str.tooLong
    exact decide_eq_false (by rw [sizeLine_eq]; omega)
  · by_cases h1 : i < 1
    · have e : times i.toNat l = [] := by
        rw [show i.toNat = 0 by omega]
        rfl
      rw [e] at q
      rw [if_pos h1]
      exact ⟨by decide, .str (SX.S []), H, I.tok _, ⟨_, rfl⟩, q⟩
    · rw [if_neg h1]
      by_cases h2 : (i == 1 || (SX.S l).length == 0) = true
      · rw [if_pos h2]
        have e : times i.toNat l = l := by
          rw [Bool.or_eq_true] at h2
          rcases h2 with h2 | h2
          · have e1 : i = 1 := by simpa using h2
            subst e1
            simp [times]
          · have h4 : l.length = 0 := by rw [hlen] at h2; simpa using h2
            have h5 : l = [] := List.length_eq_zero_iff.mp h4
            subst h5
            simp [times]
        rw [e] at q
        exact ⟨.str (SX.S l), H, I, ⟨_, rfl⟩, q⟩
      · rw [if_neg h2]
        have e : (⟨(List.replicate i.toNat (SX.S l).cps).foldl (· ++ ·) #[]⟩ : Str) = SX.S (times i.toNat l) := by
          refine TL.ext_tl ?_
          show ((List.replicate i.toNat l.toArray).foldl (· ++ ·) #[]).toList = (times i.toNat l).toArray.toList
          rw [foldl_reps]
          simp
        rw [e]
        refine ⟨?_, .str (SX.S (times i.toNat l)), H, I.tok _, ⟨_, rfl⟩, q⟩
        rw [Slen, sizeLine_eq]
        simp only [times, List.length_flatten, List.map_replicate, List.sum_replicate_nat]
        rw [Nat.mul_comm]
        omega
/-- max(a, b, c) of ints -/
theorem call_max3 (hc : X.calm = true) : CallR X (.builtin "max") (fun xs H Q => ∃ i j k : Int, xs = [.int i, .int j, .int k] ∧ Q (.int (max (max i j) k)) H) := by
  rintro pins s σ H xs us Q I r ⟨i, j, k, rfl, q⟩
  cases r with
  | cons r1 r =>
    cases r with
    | cons r2 r =>
      cases r with
      | cons r3 r =>
        cases r
        obtain ⟨t1, rfl⟩ := r1
        obtain ⟨t2, rfl⟩ := r2
        obtain ⟨t3, rfl⟩ := r3
        refine max_three_ints (I.ok.hd hc) fun h' tk kp => ⟨_, H, I.kept kp, ?_, q⟩
        by_cases h1 : j > i
        · rw [if_pos h1, show max i j = j by omega]
          by_cases h2 : k > j
          · rw [if_pos h2, show max j k = k by omega]
            exact ⟨_, rfl⟩
          · rw [if_neg h2, show max j k = j by omega]
            exact ⟨_, rfl⟩
        · rw [if_neg h1, show max i j = i by omega]
          by_cases h2 : k > i
          · rw [if_pos h2, show max i k = k by omega]
            exact ⟨_, rfl⟩
          · rw [if_neg h2, show max i k = i by omega]
            exact ⟨_, rfl⟩
/-! ### a, *b = a list -/
def gStar (K : PySem.W.Frag) (t : TGs) : TG := fun v σ H Q => ∃ a x xs, v = .ref a ∧ SqL K H a (x :: xs) ∧ xs.length ≤ 1000 ∧ ∀ p, H p = none → t [x, .ref p] σ (upd H p (.lst xs)) Q
/-- what a star target takes of a list: the first item, a new list of the others -/
theorem star_items {prog : Program} {w : World} {A : Around} {E : Value → Shared → Prop} {s : Shared} {l : Addr} {i1 : Value} {its : List Value} {Q : List Value → Shared → Prop} (hl : s.heap.IsList l (i1 :: its).toArray) (hh : A.handled = none) (hz : its.length ≤ 10000)
    (h : ∀ (h2 : Heap) (tk : Nat), (∀ b o, s.heap.get? b = some o → h2.get? b = some o) → Q [i1, .ref h2.objs.size] { s with heap := h2.push { cls := .type "list", data := .seq its.toArray }, toks := tk }) :
    wpAny (model prog w) A (unpackItems (.ref l) 2 (some 1)) Q E s := by
  have hll : l < s.heap.objs.size := by
    obtain ⟨o, ho, _⟩ := hl
    exact Heap.lt_size ho
  have hne : l ≠ s.heap.objs.size := Nat.ne_of_lt hll
  unfold unpackItems notIterableAtAll
  refine wpAny_bind (wpAny_bind (wpAny_specialOf hl.typeIs slot_list_iter.lookup (wpAny_pure ?_)))
  rw [if_neg (by decide)]
  refine wpAny_bind (wpAny_holding (wpAny_pyIter_list hl ?_))
  refine wpAny_bind (wpAny_holding (PySem.W.kun_draw hne 1 0 _ _ ⟨_, Heap.get?_push_size _ rfl, rfl, rfl⟩ (hl.push _) (by simp) fun h1 hit hs1 => ?_))
  have hl1 : h1.IsList l (i1 :: its).toArray := (hl.push _).extBut hs1.extBut hne
  obtain ⟨oi, hoi, _⟩ := id hit
  obtain ⟨ol, hol, _⟩ := id hl1
  have e1 : (List.drop 0 (i1 :: its).toArray.toList).take 1 = [i1] := by simp
  rw [e1, if_neg (by simp)]
  refine wpAny_bind (wpAny_holding (PySem.W.kun_collect (s := { s with heap := h1 }) (T := "list_iterator") (.inr (.inr (.inl rfl))) (Walks.list (A := A.in1) hh s.heap.objs.size l hne (i1 :: its).toArray) (fun j u st => st.1.typeIs) (k := 1) (by simp) ⟨hit, hl1⟩ (Heap.lt_size hoi) (Heap.lt_size hol) (fun h2 tk hk => ?_) (by simp; rw [sizeLine_eq]; omega)))
  have e2 : List.drop 1 (i1 :: its).toArray.toList = its := by simp
  rw [e2]
  show wpAny _ _ (if its.length < 0 then _ else _) _ _ _
  rw [if_neg (Nat.not_lt_zero _)]
  show wpAny _ _ (newList (its.take (its.length - 0)) >>= fun d => pure ([i1] ++ [d] ++ its.drop (its.length - 0))) _ _ _
  rw [Nat.sub_zero, List.take_length, List.drop_length]
  refine wpAny_bind (wpAny_newObj_type (wpAny_pure (h h2 tk fun b o e => ?_)) (by show its.toArray.size ≤ sizeLine; rw [List.size_toArray, sizeLine_eq]; omega))
  have hb : b ≠ s.heap.objs.size := Nat.ne_of_lt (Heap.lt_size e)
  exact hk b o hb (hs1.extBut b o hb (Heap.get?_push_of_some _ e))
theorem pg_star {e1 e2 : Expr} {p0 pos : Pos} {k : Nat} {t : TGs} (hc : X.calm = true) (h : PGs X [e1, e2] t)
    (hn : (assignEach [e1, .Starred e2 p0] X.env).length = 2 := by rfl) (hst : (assignEach [e1, .Starred e2 p0] X.env).findIdx? (·.1) = some 1 := by rfl)
    (hsame : (assignEach [e1, .Starred e2 p0] X.env).map (·.2) = (assignEach [e1, e2] X.env).map (·.2) := by rfl) : PG X (.Tuple [e1, .Starred e2 p0] k pos) (gStar X.K t) := by
  refine ⟨fun pins s σ H v u Q I r hw => ?_⟩
  obtain ⟨a, x, xs, rfl, hq, hl, hw⟩ := hw
  cases r
  obtain ⟨its, rv, pl, hz⟩ := I.list hq
  cases rv with
  | cons r1 rr =>
    rename_i i1 its
    have hlen : its.length = xs.length := (rr.length).symm
    rw [PyProof.Rows.assign_Tuple]
    refine wpAny_bind (wpAny_standAt ?_)
    unfold unpack
    rw [hn, hst, hsame]
    refine wpAny_bind (wpAny_holding (star_items pl.isList (I.ok.hd hc) (by omega) fun h2 tk hk => ?_))
    have I1 : Inv X pins σ H { s with heap := h2, toks := tk } := I.kept hk
    have hn2 : H h2.objs.size = none := I1.hok.fresh (Nat.le_refl _)
    have I2 : Inv X pins σ (upd H h2.objs.size (.lst xs)) { s with heap := h2.push { cls := .type "list", data := .seq its.toArray }, toks := tk } :=
      I1.laid (fun b o e => Heap.get?_push_of_some _ e) (Nat.le_refl _) ⟨by rw [sizeLine_eq]; omega, its, 0, rr, Heap.get?_push_size _ rfl⟩
    exact h.run pins _ σ _ [x, .ref h2.objs.size] _ Q I2 (.cons r1 (.cons rfl .nil)) (hw _ hn2)
end
end Fq

set_option Elab.async false
set_option linter.all false
set_option maxRecDepth 100000
set_option maxHeartbeats 4000000
/-! enumerate of a tuple and of a text; == by an own __eq__, both answers. -/
namespace Fq
open PySem PySem.Spec PyProof.Rows L2
/-! ### enumerate(v) begins -/
set_option maxHeartbeats 4000000 in
theorem meets_enum1 {v : Value} {o : Obj} {G : Heap → Prop} (B : Begins v o G) :
    Meets (Builtin.«enumerate.__new__» ⟨[.type "enumerate", v], []⟩) (fun _ R s => G s.heap ∧
      R (.ok (.ret (.ref (s.heap.push o).objs.size))) { s with heap := (s.heap.push o).push { cls := .type "enumerate", data := .fields #[.none, .bool false, .ref s.heap.objs.size, rawInt 0, .none, .none] } }) :=
  .of_wp fun prog w A R s hh => by
    obtain ⟨hp, g, d, tk, os⟩ := s
    obtain ⟨h1, h2⟩ := hh
    have hs := sub_enumerate
    have go : ∀ {A' : Around} {E : Value → Shared → Prop} {Q : Value → Shared → Prop}, Q (.ref hp.objs.size) ⟨hp.push o, g, d, tk, os⟩ → wpAny (model prog w) A' (pyIter v) Q E ⟨hp, g, d, tk, os⟩ :=
      fun q => B.iter prog w _ _ ⟨hp, g, d, tk, os⟩ _ h1 q
    wp_walk using go
    refine wpAny_stack_any fun st => wpAny_pure ?_
    split
    · rename_i c _ _ _ _ _
      cases (c == Value.type "enumerate")
      · wp_walk using go
        exact ⟨_, rfl, h2⟩
      · wp_walk using go
        exact ⟨_, rfl, h2⟩
    · wp_walk using go
      exact ⟨_, rfl, h2⟩
theorem call_enum1 {prog : Program} {w : World} {A : Around} {E : Value → Shared → Prop} {s : Shared} {v : Value} {o : Obj} {G : Heap → Prop} {Q : Value → Shared → Prop} (B : Begins v o G) (h1 : G s.heap)
    (h : ∀ h', IsEnum h' (s.heap.objs.size + 1) s.heap.objs.size 0 .none → h'.get? s.heap.objs.size = some o → (∀ b o, s.heap.get? b = some o → h'.get? b = some o) → Q (.ref (s.heap.objs.size + 1)) { s with heap := h' }) :
    wpAny (model prog w) A (call (.type "enumerate") [v]) Q E s := by
  refine callType_new F.called_enumerate (by decide) (F.typeCall_enumerate_1 _) (F.newCall_enumerate_1 _) (fun obj => F.args_object_init_2 obj _) F.entry_enumerate_new (meets_enum1 B) ⟨h1, ?_⟩
  have hz : (s.heap.push o).objs.size = s.heap.objs.size + 1 := Heap.size_push ..
  show _ ∧ _
  rw [hz]
  have he : IsEnum ((s.heap.push o).push { cls := .type "enumerate", data := .fields #[.none, .bool false, .ref s.heap.objs.size, rawInt 0, .none, .none] }) (s.heap.objs.size + 1) s.heap.objs.size 0 .none := by
    have q := Heap.get?_push_size (s.heap.push o) (o := { cls := .type "enumerate", data := .fields #[.none, .bool false, .ref s.heap.objs.size, rawInt 0, .none, .none] }) rfl
    rw [hz] at q
    exact q
  exact ⟨⟨_, he, rfl⟩, h _ he (Heap.get?_push_of_some _ (Heap.get?_push_size _ B.free)) fun b o x => Heap.get?_push_of_some _ (Heap.get?_push_of_some _ x)⟩
/-! ### its turns, by what the source's iterator draws -/
/-- n items, the i-th told by Y; the source stands by G -/
def Ited (n : Hp → Nat → Prop) (Y : Hp → Nat → V → Prop) : L2.It :=
  ⟨fun i H => ∃ k, n H k ∧ i < k, fun i H v H' => ∃ T x, v = .ref T ∧ H T = none ∧ H' = upd H T (.tup [.int (i : Nat), x]) ∧ Y H i x, fun i H => n H i⟩
/-- what a source's iterator at it does: St its state, at each turn -/
structure Src (P : Program) (w : World) (K : PySem.W.Frag) (n : Hp → Nat → Prop) (Y : Hp → Nat → V → Prop) (it : Addr) (St : Nat → Heap → Prop) : Prop where
  obj : ∀ i h, St i h → ∃ o, h.get? it = some o ∧ ∀ v, o.data ≠ .cell v
  keep : ∀ i h h', St i h → (∀ o, h.get? it = some o → h'.get? it = some o) → St i h'
  draws : ∀ (X : Cx), X.prog = P → X.w = w → X.K = K → ∀ (pins : List (Addr × Obj)) (s : Shared) (σ : L2.St) (H : Hp) (k : Nat), Inv X pins σ H s → H it = none → n H k → X.A.handled = none →
    ∃ (fp : List Addr) (Pv : Nat → Value → Prop) (St' : Nat → Heap → Prop), Draws P w X.A.in1 it fp k Pv St' ∧ (∀ b ∈ fp, b = it ∨ (H b).isSome = true ∨ (X.base.get? b).isSome = true) ∧ (∀ i, St i s.heap → St' i s.heap) ∧ (∀ i h, St' i h → St i h) ∧
      ∀ i u, Pv i u → ∃ x, RelV x u ∧ Y H i x
theorem turn_src {P : Program} {w : World} {K : PySem.W.Frag} {elts : List Expr} {kk : Nat} {tpos : Pos} {n : Hp → Nat → Prop} {Y : Hp → Nat → V → Prop} {e it : Addr} {St : Nat → Heap → Prop} (S : Src P w K n Y it St) (hei : e ≠ it) :
    Turn P w K (.Tuple elts kk tpos) (Ited n Y) [e, it] e (fun i h => (∃ old, IsEnum h e it ((i : Nat) : Int) old) ∧ St i h) where
  mem := by simp
  obj := fun i h st b hb => by
    obtain ⟨⟨old, he⟩, hs⟩ := st
    have e' : b = e ∨ b = it := by simpa using hb
    rcases e' with z | z
    · rw [z]
      exact ⟨_, he, fun v q => nomatch q⟩
    · rw [z]
      exact S.obj i h hs
  keep := fun i h h' st k => let ⟨⟨old, he⟩, hs⟩ := st; ⟨⟨old, k e (by simp) _ he⟩, S.keep i h h' hs fun o q => k it (by simp) o q⟩
  item := by
    intro X hP hw hK hc i pins s σ H E I hf st hg
    obtain ⟨⟨old, he⟩, hs⟩ := st
    obtain ⟨k, hn, hi⟩ := hg
    have fe := hf e (by simp)
    have fi := hf it (by simp)
    obtain ⟨fp, Pv, St', D, hfp, s1, s2, hY⟩ := S.draws X hP hw hK pins s σ H k I fi.1 hn (I.ok.hd hc)
    have hef : e ∉ fp := fun hb => by
      rcases hfp e hb with q | q | q
      · exact hei q
      · rw [fe.1] at q
        cases q
      · obtain ⟨o, ho⟩ := Option.isSome_iff_exists.mp q
        have := I.ok.bs e o ho
        rcases fe.2.2.2.1 with z | z
        · exact I.ok.noex e o ho z
        · exact absurd (Nat.lt_of_lt_of_le (Heap.lt_size this.1) z) (Nat.lt_irrefl _)
    have hel : e < s.heap.objs.size := Heap.lt_size he
    have hil : it < s.heap.objs.size := by
      obtain ⟨o, q, _⟩ := S.obj i _ hs
      exact Heap.lt_size q
    refine wpAny_pyNext_enum_itemD D he (s1 i hs) hi hei hef fun u h' tk hP' ho hst hT hsz hk => ?_
    obtain ⟨x, rx, yx⟩ := hY i u hP'
    refine ⟨_, rfl, wpAny_letOwnedTupleGo_enum (s := { s with heap := h', toks := tk + 1 }) ho fun h'' he' sb => ?_⟩
    have hT2 : h''.get? s.heap.objs.size = some { cls := .type "tuple", data := .seq #[.int i tk, u] } := (sb.2 _ (Nat.ne_of_gt hel)).trans hT
    have new : ObjOk X.prog X.w (upd H s.heap.objs.size (.tup [.int (i : Nat), x])) h'' s.heap.objs.size (.tup [.int (i : Nat), x]) :=
      ⟨two_size, [.int i tk, u], .cons ⟨_, rfl⟩ (.cons rx .nil), ⟨_, hT2, rfl, _, rfl⟩⟩
    have I1 : Inv X pins σ (upd H s.heap.objs.size (.tup [.int (i : Nat), x])) { s with heap := h'', toks := tk + 1 } :=
      I.turnedNew (ch := [e, it]) (fun b ob hb q => (sb.2 b (fun z => hb (by simp [z]))).trans (hk b ob (fun z => hb (by simp [z])) (fun z => hb (by simp [z])) q)) hf (Nat.le_refl _) new
    refine ⟨.ref s.heap.objs.size, _, I1, rfl, ⟨_, x, rfl, I.hok.fresh (Nat.le_refl _), rfl, yx⟩, ⟨⟨u, ?_⟩, ?_⟩, fun b hb => ?_⟩
    · have e1 : ((i + 1 : Nat) : Int) = (i : Int) + 1 := by omega
      rw [e1]
      exact he'
    · exact S.keep _ _ _ (s2 _ _ hst) fun o q => (sb.2 it (Ne.symm hei)).trans q
    · have hb' : b < s.heap.objs.size := by
        have e' : b = e ∨ b = it := by simpa using hb
        rcases e' with z | z
        · rw [z]; exact hel
        · rw [z]; exact hil
      rw [upd_ne (Nat.ne_of_lt hb')]
      exact (hf b hb).1
  done := by
    intro X hP hw hK hc i pins s σ H E I hf st hg
    obtain ⟨⟨old, he⟩, hs⟩ := st
    have fi := hf it (by simp)
    obtain ⟨fp, Pv, St', D, hfp, s1, s2, hY⟩ := S.draws X hP hw hK pins s σ H i I fi.1 hg (I.ok.hd hc)
    obtain ⟨f0, f1, f2, f3, f4, f5⟩ := fi
    exact wpAny_pyNext_enum_endD D he (s1 i hs) fun h' eb => ⟨rfl, I.turned (t' := s.toks) (fun b o hb q => eb b o hb q) f0 f1 f3 f4 f5⟩
  self := fun A i s Q E st h => let ⟨⟨_, he⟩, _⟩ := st; wpAny_pyIter_enum he h
/-- for i, x in enumerate(a tuple) -/
abbrev Itet (a : Addr) : L2.It := Ited (fun H k => ∃ xs, H a = some (.tup xs) ∧ xs.length = k) (fun H i x => ∀ xs, H a = some (.tup xs) → xs[i]? = some x)
def iEnumT (ta : TA) : TI := fun σ H R => ta σ H fun vs H1 => ∃ a xs, vs = [.ref a] ∧ H1 a = some (.tup xs) ∧ R (Itet a) H1
/-- .. a text -/
abbrev Ites (z : Str) : L2.It := Ited (fun _ k => z.cps.size = k) (fun _ i x => ∃ c, z.cps[i]? = some c ∧ x = .str ⟨#[c]⟩)
def iEnumS (ta : TA) : TI := fun σ H R => ta σ H fun vs H1 => ∃ z, vs = [.str z] ∧ R (Ites z) H1
theorem walk_enumT {a : Addr} {xs : List V} : Walk (Itet a) xs.length (fun H => H a = some (.tup xs)) (YPair (fun i => some (.int (i : Nat))) (fun i => xs[i]?)) := by
  refine ⟨fun i H hi q => ⟨xs.length, ⟨xs, q, rfl⟩, hi⟩, fun H q => ⟨xs, q, rfl⟩, fun i H v H' _ q y => ?_⟩
  obtain ⟨T, x, h1, h2, h3, h4⟩ := y
  exact ⟨T, .int (i : Nat), x, h1, h2, h3, rfl, h4 xs q⟩
theorem walk_enumS {z : Str} : Walk (Ites z) z.cps.size (fun _ => True) (YPair (fun i => some (.int (i : Nat))) (fun i => z.cps[i]?.map fun c => V.str ⟨#[c]⟩)) := by
  refine ⟨fun i H hi _ => ⟨_, rfl, hi⟩, fun H _ => rfl, fun i H v H' _ q y => ?_⟩
  obtain ⟨T, x, h1, h2, h3, c, h4, rfl⟩ := y
  exact ⟨T, .int (i : Nat), _, h1, h2, h3, rfl, by show z.cps[i]?.map _ = _; rw [h4]; rfl⟩
theorem src_tuple {P : Program} {w : World} {K : PySem.W.Frag} {a it : Addr} :
    Src P w K (fun H k => ∃ xs, H a = some (.tup xs) ∧ xs.length = k) (fun H i x => ∀ xs, H a = some (.tup xs) → xs[i]? = some x) it (fun i h => h.IsTupleIter it a i) where
  obj := fun i h st => by
    obtain ⟨o, ho, _, hd⟩ := st
    exact ⟨o, ho, fun v q => by rw [hd] at q; cases q⟩
  keep := fun i h h' st k => st.at k
  draws := by
    intro X hP hw hK pins s σ H k I hit hn hh
    subst hP hw hK
    obtain ⟨xs, hq, rfl⟩ := hn
    obtain ⟨its, rv, ht, hz⟩ := I.tuple (.inl (.inl hq))
    have hne : a ≠ it := ne_of_none hq hit
    have D := Draws.tuple (prog := X.prog) (w := X.w) (A := X.A.in1) hh it a hne its.toArray
    rw [show its.toArray.size = xs.length by rw [List.size_toArray, rv.length]] at D
    refine ⟨_, _, _, D, fun b hb => ?_, fun i st => ⟨st, ht⟩, fun i h st => st.1, fun i u hu => ?_⟩
    · have e : b = it ∨ b = a := by simpa using hb
      rcases e with e | e
      · exact .inl e
      · exact .inr (.inl (by rw [e, hq]; rfl))
    · have hu : its[i]? = some u := by simpa using hu
      have hi : i < xs.length := by
        rw [rv.length]
        exact (List.getElem?_eq_some_iff.mp hu).1
      obtain ⟨u', h1, h2⟩ := rv.get (List.getElem?_eq_getElem hi)
      have e : u = u' := Option.some.inj (hu.symm.trans h1)
      subst e
      exact ⟨xs[i], h2, fun ys hy => by rw [hq] at hy; cases hy; exact List.getElem?_eq_getElem hi⟩
theorem src_text {P : Program} {w : World} {K : PySem.W.Frag} {z : Str} {t : Tok} {it : Addr} :
    Src P w K (fun _ k => z.cps.size = k) (fun _ i x => ∃ c, z.cps[i]? = some c ∧ x = .str ⟨#[c]⟩) it (fun i h => h.IsStrIter it (strIterType z) z t i) where
  obj := fun i h st => by
    obtain ⟨o, ho, _, hd⟩ := st
    exact ⟨o, ho, fun v q => by rw [hd] at q; cases q⟩
  keep := fun i h h' st k => by
    obtain ⟨o, ho, r⟩ := st
    exact ⟨o, k o ho, r⟩
  draws := by
    intro X hP hw hK pins s σ H k I hit hn hh
    subst hP hw hK
    subst hn
    refine ⟨_, _, _, Draws.text (prog := X.prog) (w := X.w) (A := X.A.in1) hh it z t, fun b hb => .inl (by simpa using hb), fun i st => st, fun i h st => st, fun i u hu => ?_⟩
    obtain ⟨c, t', h1, rfl⟩ := hu
    exact ⟨.str ⟨#[c]⟩, ⟨t', rfl⟩, c, h1, rfl⟩
section
variable {X : Cx} {e : Expr} {ta : TA} {p pos tpos : Pos} {elts : List Expr} {kk : Nat}
theorem pi_enum_any {v : Value} {o : Obj} {G : Heap → Prop} {n : Hp → Nat → Prop} {Y : Hp → Nat → V → Prop} {St : Addr → Nat → Heap → Prop} {pins : List (Addr × Obj)} {s : Shared} {σ : L2.St} {H : Hp} {R : L2.It → Hp → Prop}
    (I : Inv X pins σ H s) (B : Begins v o G) (g : G s.heap) (S : ∀ it, Src X.prog X.w X.K n Y it (St it)) (st : ∀ h : Heap, h.get? s.heap.objs.size = some o → St s.heap.objs.size 0 h) (q : R (Ited n Y) H) :
    wpAny (model X.prog X.w) X.A (call (.type "enumerate") [v]) (fun v s1 => wpAny (model X.prog X.w) X.A (pyIter v) (PIE X pins σ (.Tuple elts kk tpos) R) X.xe s1) X.xe s := by
  refine call_enum1 B g fun h' he hit hk => wpAny_pyIter_enum he ?_
  have I2 : Inv X pins σ H { s with heap := h' } := I.kept (t' := s.toks) hk
  refine ⟨s.heap.objs.size + 1, [s.heap.objs.size + 1, s.heap.objs.size], _, _, H, rfl, I2, turn_src (S s.heap.objs.size) (Nat.succ_ne_self _), ⟨⟨.none, he⟩, st h' hit⟩, fun b hb => ?_, q⟩
  have e' : b = s.heap.objs.size + 1 ∨ b = s.heap.objs.size := by simpa using hb
  have hle : s.heap.objs.size ≤ b := by
    rcases e' with z | z
    · rw [z]; exact Nat.le_add_right _ _
    · rw [z]; exact Nat.le_refl _
  exact I.fpOk hle (I.hok.fresh hle)
theorem pi_enumT (hg : Gl X "enumerate") (hm : X.mg "enumerate" = none) (ha : PA X [e] ta) (hs : starEach [e] X.env = [(false, eval e X.env)] := by rfl) :
    PI X (.Tuple elts kk tpos) (.Call (.Name "enumerate" p) [e] [] pos) (iEnumT ta) := by
  refine ⟨fun pins s σ H R I h => ?_⟩
  refine Call_ (ld_blt I hg hm boot_enumerate (PyProof.Rows.callWith_type1 (thn (ha.run pos pins s σ H _ I h) fun us s1 ⟨vs, H1, I1, r1, q1⟩ => ?_) hs rfl))
  obtain ⟨a, xs, rfl, hq, q⟩ := q1
  cases r1 with
  | cons r rr =>
    cases rr
    cases r
    obtain ⟨its, rv, ht, hz⟩ := I1.tuple (.inl (.inl hq))
    exact pi_enum_any I1 (begins_tuple a its.toArray) ht (fun it => src_tuple) (fun h' hit => ⟨_, hit, rfl, rfl⟩) q
theorem pi_enumS (hg : Gl X "enumerate") (hm : X.mg "enumerate" = none) (ha : PA X [e] ta) (hs : starEach [e] X.env = [(false, eval e X.env)] := by rfl) :
    PI X (.Tuple elts kk tpos) (.Call (.Name "enumerate" p) [e] [] pos) (iEnumS ta) := by
  refine ⟨fun pins s σ H R I h => ?_⟩
  refine Call_ (ld_blt I hg hm boot_enumerate (PyProof.Rows.callWith_type1 (thn (ha.run pos pins s σ H _ I h) fun us s1 ⟨vs, H1, I1, r1, q1⟩ => ?_) hs rfl))
  obtain ⟨z, rfl, q⟩ := q1
  cases r1 with
  | cons r rr =>
    cases rr
    obtain ⟨t, rfl⟩ := r
    exact pi_enum_any I1 (begins_text z t) trivial (fun it => src_text) (fun h' hit => ⟨_, hit, rfl, rfl⟩) q
/-! ### == by an own __eq__ -/
/-- a == b, instances of the class at C whose own == is the def at f -/
def rEqO (C : Addr) (sp : Sp) (E : XK) : R2 := fun x y H Q => ∃ a b dx dy fs gs, x = .ref a ∧ y = .ref b ∧ H a = some (.ins C dx fs) ∧ H b = some (.ins C dy gs) ∧ sp [.ref a, .ref b] H Q E
theorem op_eqO {CX : CXT} {n : Nat} {C f : Addr} {fd : FuncData} {ps : List Str} {sp : Sp} {E : XK} (F : FnOk X.prog X.w X.K X.mg X.base CX n f fd ps sp) (hr : Room n X.A)
    (hs : PySem.W.findIn X.K (.ref C) "__eq__" = some (some (.ref f))) (hf : PySem.W.isFn X.K (.ref f) = true) (hb : Binds X.K fd ps []) (hx : Passes CX X E) : OpR X (compareOp .Eq) (rEqO C sp E) := by
  intro pins s σ H x y u v Q I rx ry h
  obtain ⟨a, b, dx, dy, fs, gs, rfl, rfl, ha, hb', hsp⟩ := h
  cases rx
  cases ry
  obtain ⟨mA, J, _⟩ := ins_get I.hok ha
  obtain ⟨mB, J', _⟩ := ins_get I.hok hb'
  obtain ⟨od, J, _⟩ := J.look
  obtain ⟨od', J', _⟩ := J'.look
  obtain ⟨m, hF⟩ := I.fr
  refine PySem.W.cmp_K (op := .Eq) (tb := .ref C) hr.units0 hF I.ok.mod.kin J J'.type (by simp [PySem.W.notFirst]) hs hf ?_
  have hl := F.len _ _ _ _ hsp
  have r2 : Vals [V.ref a, V.ref b] [Value.ref a, Value.ref b] := .cons rfl (.cons rfl .nil)
  refine wpAny_call (codeAny_mono (F.run X.A X.stack s H ⟨[.ref a, .ref b], []⟩ [.ref a, .ref b] [.ref a, .ref b] _ E hr I.env0 (by
    have q := hb s [.ref a, .ref b] I.kIn (by simpa using hl)
    simpa using q) r2 hsp) fun r s' hq => ?_)
  cases r with
  | error er => exact hx pins σ H s er s' I hq
  | ok fl =>
    cases fl with
    | ret w' =>
      obtain ⟨z, H', I', rz, q⟩ := I.after hq
      have fin : EP X pins σ Q w' s' := ⟨z, H', I', rz, q⟩
      cases z <;> first
        | (obtain ⟨t, rfl⟩ := rz; exact fin)
        | (cases rz; exact fin)
    | next => exact False.elim hq
    | brk => exact False.elim hq
    | cont => exact False.elim hq
end
end Fq

set_option Elab.async false
set_option linter.all false
set_option maxRecDepth 100000
set_option maxHeartbeats 4000000
/-! Judgements that start where at least B tokens are given out: a text of the module's top and a text that is written later are two objects. -/
namespace Fq
open PySem PySem.Spec PyProof.Rows L2
theorem thB {α : Type} {t : Sem α} {Q Q' : α → Shared → Prop} {M : Model} {A : Around} {E : Value → Shared → Prop} {s : Shared} {B : Nat} (hB : B ≤ s.toks) (h : wpAny M A t Q E s) (k : ∀ a s', B ≤ s'.toks → Q a s' → Q' a s') : wpAny M A t Q' E s :=
  wpAny_mono (wpAny_toks_of hB h) (fun a s' q => k a s' q.1 q.2) fun _ _ q => q.2
theorem thBF {α : Type} {t : Sem α} {Q Q' : α → Shared → Prop} {M : Model} {A : Around} {E : Value → Shared → Prop} {s : Shared} {B : Nat} (hB : B ≤ s.toks) (h : wpAny M A t Q (fun _ _ => False) s) (k : ∀ a s', B ≤ s'.toks → Q a s' → Q' a s') : wpAny M A t Q' E s :=
  wpAny_mono (wpAny_toks_of hB h) (fun a s' q => k a s' q.1 q.2) fun _ _ q => q.2.elim
structure Eb (B : Nat) (X : Cx) (e : Expr) (t : TE) : Prop where
  run : ∀ (pins : List (Addr × Obj)) (s : Shared) (σ : L2.St) (H : Hp) (Q : VK), B ≤ s.toks → Inv X pins σ H s → t σ H Q → wpAny (model X.prog X.w) X.A (eval e X.env) (EP X pins σ Q) X.xe s
structure Tb (B : Nat) (X : Cx) (e : Expr) (t : TT) : Prop where
  run : ∀ (pins : List (Addr × Obj)) (s : Shared) (σ : L2.St) (H : Hp) (Q : Bool → Hp → Prop), B ≤ s.toks → Inv X pins σ H s → t σ H Q → wpAny (model X.prog X.w) X.A (isTrue e X.env (eval e X.env)) (TP X pins σ Q) X.xe s
structure Tsb (B : Nat) (X : Cx) (ifs : List Expr) (t : TT) : Prop where
  run : ∀ (pins : List (Addr × Obj)) (s : Shared) (σ : L2.St) (H : Hp) (Q : Bool → Hp → Prop), B ≤ s.toks → Inv X pins σ H s → t σ H Q →
    wpAny (model X.prog X.w) X.A (forIn ifs true fun c r => if r = true then do let ok ← isTrue c X.env (eval c X.env); pure (ForInStep.yield ok) else pure (ForInStep.yield r)) (TP X pins σ Q) X.xe s
structure Sb (B : Nat) (X : Cx) (st : Stmt) (t : TS) : Prop where
  run : ∀ (pins : List (Addr × Obj)) (s : Shared) (σ : L2.St) (H : Hp) (D : Ends), B ≤ s.toks → Inv X pins σ H s → t D σ H → wpAny (model X.prog X.w) X.A (exec st X.env) (SP X pins D) X.xe s
structure Ssb (B : Nat) (X : Cx) (st : List Stmt) (t : TS) : Prop where
  run : ∀ (pins : List (Addr × Obj)) (s : Shared) (σ : L2.St) (H : Hp) (D : Ends), B ≤ s.toks → Inv X pins σ H s → t D σ H → wpAny (model X.prog X.w) X.A (execs st X.env) (SP X pins D) X.xe s
section
variable {B : Nat} {X : Cx} {e a b : Expr} {es : List Expr} {te ta tb : TE} {st : Stmt} {rest : List Stmt} {t u : TS} {p pos : Pos} {x : Str}
theorem Eb.of (h : PE X e te) : Eb B X e te := ⟨fun pins s σ H Q _ I q => h.run pins s σ H Q I q⟩
theorem Tsb.of {ifs : List Expr} {tt : TT} (h : PTs X ifs tt) : Tsb B X ifs tt := ⟨fun pins s σ H Q _ I q => h.run pins s σ H Q I q⟩
theorem Sb.of (h : PS X st t) : Sb B X st t := ⟨fun pins s σ H D _ I q => h.run pins s σ H D I q⟩
theorem Ssb.of (h : PSs X rest t) : Ssb B X rest t := ⟨fun pins s σ H D _ I q => h.run pins s σ H D I q⟩
theorem ssb_cons (h1 : Sb B X st t) (h2 : Ssb B X rest u) : Ssb B X (st :: rest) (tSeq t u) := ⟨fun pins s σ H D hB I h => by
  refine wpAny_execs_cons (thB hB (h1.run pins s σ H { D with nx := u D } hB I h) fun f s1 hB1 q => ?_)
  cases f with
  | next =>
    obtain ⟨σ1, H1, I1, q1⟩ := q
    exact h2.run pins s1 σ1 H1 D hB1 I1 q1
  | ret v => exact q
  | brk => exact q
  | cont => exact q⟩
theorem ssb_one (h1 : Sb B X st t) : Ssb B X [st] t := ⟨fun pins s σ H D hB I h => by
  refine wpAny_execs_cons (L2.thn (h1.run pins s σ H D hB I h) fun f s1 q => ?_)
  cases f with
  | next => exact wpAny_execs_nil q
  | ret v => exact q
  | brk => exact q
  | cont => exact q⟩
theorem sb_if {c : Expr} {l r : List Stmt} {tc : TT} (hc : PT X c tc) (hl : Ssb B X l t) (hr : Ssb B X r u) : Sb B X (.If c l r pos) (tIfS tc t u) := ⟨fun pins s σ H D hB I h => by
  refine wpAny_If (thB hB (hc.run pins s σ H _ I h) fun d s1 hB1 ⟨H1, I1, q1⟩ => ?_)
  cases d with
  | true => exact hl.run pins s1 σ H1 D hB1 I1 q1
  | false => exact hr.run pins s1 σ H1 D hB1 I1 q1⟩
theorem sb_ret (he : Eb B X e te) : Sb B X (.Return (some e) pos) (tRet te) := ⟨fun pins s σ H D hB I h =>
  wpAny_Return_some (L2.thn (he.run pins s σ H _ hB I h) fun v s1 ⟨y, H1, I1, r1, q1⟩ => ⟨y, σ, H1, I1, r1, q1⟩)⟩
theorem sb_set {i : Nat} {pos' : Pos} (hN : X.N.Nodup) (hi : X.N[i]? = some x) (hx : Loc X.env.scope x) (he : Eb B X e te) (hs : swapsWith e (some (.Name x pos')) pos.line X.env = pure false := by rfl)
    (hf : X.fn x = true ∨ X.env.scope.names.lookup x = some .local := by first | exact .inl rfl | exact .inr rfl | assumption) : Sb B X (.Assign [.Name x pos'] e pos) (tAsg te (gName i)) := ⟨fun pins s σ H D hB I h =>
  wpAny_Assign_Name (L2.thn (he.run pins s σ H _ hB I h) fun v s1 ⟨y, H1, I1, r1, q1⟩ => store_ok I1 hN hi hx r1 (fun s2 I2 => ⟨_, H1, I2, q1⟩) hf) hs⟩
theorem eb_op {op : Operator} {r : R2} (ho : OpR X (binaryOp op) r) (ha : PE X a ta) (hb : Eb B X b tb) : Eb B X (.BinOp a op b pos) (tOp r ta tb) := ⟨fun pins s σ H Q hB I h =>
  wpAny_BinOp (thB hB (ha.run pins s σ H _ I h) fun v s1 hB1 ⟨y, H1, I1, r1, q1⟩ => L2.thn (hb.run pins s1 σ H1 _ hB1 I1 q1) fun w2 s2 ⟨z, H2, I2, r2, q2⟩ => ho pins s2 σ H2 y z v w2 Q I2 r1 r2 q2)⟩
theorem eb_cmp {op : CmpOp} {r : R2} (ho : OpR X (compareOp op) r) (ha : Eb B X a ta) (hb : PE X b tb) (hm : behindInMarks op b = false) : Eb B X (.Compare a [op] [b] pos) (tOp r ta tb) := ⟨fun pins s σ H Q hB I h =>
  wpAny_Compare1 (L2.thn (ha.run pins s σ H _ hB I h) fun v s1 ⟨y, H1, I1, r1, q1⟩ => L2.thn (hb.run pins s1 σ H1 _ I1 q1) fun w2 s2 ⟨z, H2, I2, r2, q2⟩ => ho pins s2 σ H2 y z v w2 Q I2 r1 r2 q2) hm⟩
theorem tb_val (h : Eb B X e te) (he : ∀ whole, isTrue e X.env whole = (do let v ← whole; standAt e.pos; holding [v] (truthy v)) := by intro _; rfl) : Tb B X e (tB te) := ⟨fun pins s σ H Q hB I hw =>
  isTrue_plain (L2.thn (h.run pins s σ H _ hB I hw) fun v s1 ⟨y, H1, I1, r1, q1⟩ => by
    obtain ⟨d, rfl, q⟩ := q1
    cases r1
    exact wpAny_truthy_bool ⟨H1, I1, q⟩) (he _)⟩
theorem tsb_one {c : Expr} {tt : TT} (h : Tb B X c tt) : Tsb B X [c] tt := ⟨fun pins s σ H Q hB I hw => wpAny_tests_one (h.run pins s σ H Q hB I hw)⟩
/-- f(e), f a built-in function -/
theorem eb_callB1 {id : String} {r : List V → Hp → VK → Prop} (hc : CallR X (.builtin id) r) (hg : Gl X x) (hm : X.mg x = none) (hv : bootBuiltins x = some (.builtin id)) (ha : Eb B X e te) (hn : x ≠ "__name__" := by decide) (hdb : (x == ("__debug__" : Str)) = false := by decide)
    (he : starEach [e] X.env = (false, eval e X.env) :: starEach [] X.env := by rfl) (hpl : (backTo pos (starEach [] X.env)).any (·.1) = false := by rfl) : Eb B X (.Call (.Name x p) [e] [] pos) (tCB r (tCons te tNil)) := ⟨fun pins s σ H Q hB I h => by
  refine wpAny_Call_Name_kw (ld_blt I hg hm hv ?_ hn hdb)
  refine PyProof.Rows.callWith_builtin1 ?_ he hpl
  rw [he]
  show wpAny _ _ (spliced ((false, eval e X.env) :: backTo pos (starEach [] X.env))) _ _ s
  refine Calls.spliced_cons (L2.thn (ha.run pins s σ H _ hB I h) fun v s1 ⟨y, H1, I1, r1, q1⟩ => ?_)
  exact Calls.spliced_nil (hc pins s1 σ H1 [y] [v] Q I1 (.cons r1 .nil) q1)⟩
end
/-! ### defs -/
structure FnB (B : Nat) (P : Program) (w : World) (K : PySem.W.Frag) (mg : Str → Option Value) (base : Heap) (k : Nat) (f : Addr) (fd : FuncData) (ps : List Str) (sp : Sp) : Prop where
  len : ∀ vs H Q E, sp vs H Q E → vs.length = ps.length
  run : ∀ (A : Around) (outer : List Env) (s : Shared) (H : Hp) (args : Args) (us : List Value) (vs : List V) (Q : VK) (E : XK), B ≤ s.toks → Room k A → Env0 P w K mg base A outer s H → BindsTo s fd args (ps.zip us) → Vals vs us → sp vs H Q E →
    codeAny (model P w) A (.call (.ref f) args) (CR C8.CX0 outer P w H s Q E) s
structure CalB (B : Nat) (P : Program) (w : World) (K : PySem.W.Frag) (mg : Str → Option Value) (base : Heap) (k : Nat) (x : Str) (sp : Sp) : Prop where
  ex : ∃ (f : Addr) (fd : FuncData) (ps : List Str), FnB B P w K mg base k f fd ps sp ∧ mg x = some (.ref f) ∧ PySem.W.keepIn K (.ref f) = true ∧ Binds K fd ps []
theorem fnB_of {B : Nat} {P : Program} {w : World} {K : PySem.W.Frag} {mg : Str → Option Value} {base : Heap} {k : Nat} {f : Addr} {x qual : Str} {params : Arguments} {body : List Stmt} {scope : Scope} {dvs : List V} {fd : FuncData} {N ps : List Str} {sp : Sp}
    (F : FunD K x qual params body scope dvs [] f fd) (S : FnScope N ps scope) (len : ∀ vs H Q E, sp vs H Q E → vs.length = ps.length)
    (hbody : ∀ (cdv : Value) (A : Around) (outer : List Env) (s : Shared) (H : Hp) (vs : List V) (Q : VK) (E : XK), Room k (A.deeper (envOfC qual scope s.heap.objs.size f cdv)) → sp vs H Q E →
      ∃ t, Ssb B (cxOf C8.CX0 P w K mg base N qual scope f cdv A outer s H E) body t ∧ t { nx := fun _ H' => Q .non H', rt := Q } (start N vs) H) : FnB B P w K mg base (k + 1) f fd ps sp := by
  obtain ⟨oc, od, dV, kV, doc, pm, an, cdv, ct, osl, rfl, lk, hcd, _, _⟩ := F.ex
  refine ⟨len, fun A outer s H args us vs Q E hB hr e0 hb r hsp => ?_⟩
  have KX : K.In s.heap := e0.mod.kin.keeps fun b o e => (e0.bs b o e).1
  have free : s.heap.NoLimit := e0.mod.nolimit.keeps fun b o e => (e0.bs b o e).1
  have kinds : ∀ y ∈ ps.zip us, scope.names.lookup y.1 = some .local ∨ (scope.names.lookup y.1 = some .cell ∧ ((cellsFrom (s.heap.objs.size + 1) scope.names []).lookup y.1).isSome = true) := fun y hy => by
    rcases S.par y.1 (List.of_mem_zip (a := y.1) (b := y.2) hy).1 with q | q
    · exact .inl q
    · exact .inr ⟨q, PySem.W.cellsFrom_some _ _ _ (.inl q)⟩
  refine codeAny_call_function hr.depth (KX _ _ lk) rfl S.co S.gen rfl (PySem.W.codeRec_of KX hcd) (hb _ _ _ _ ?_)
  refine wpAny_with_toks hB (wpAny_newFunctionEnv_cells S.kind kinds fun env he s1 y hB1 => ?_)
  subst he
  refine ⟨free.keeps y.toInCall.keep, codeAny_func ?_⟩
  obtain ⟨t, ht, hq⟩ := hbody cdv A outer s H vs Q E (hr.deeper _) hsp
  have I := inv_start (CX := C8.CX0) (E := E) S hr.hd e0 (len _ _ _ _ hsp) r y
  refine wpAny_mono (ht.run [] s1 (start N vs) H _ hB1 I hq) (fun fl s2 hs => ?_) fun _ _ z => z
  have fin : ∀ {σ2 : L2.St} {H2 : Hp} {v : V} {u : Value}, Inv (cxOf C8.CX0 P w K mg base N qual scope f cdv A outer s H E) [] σ2 H2 s2 → RelV v u → Q v H2 → CE outer P w H s Q u s2 :=
    fun {_ H2 v _} J rv q => ⟨v, H2, J.os, J.bare, J.base, J.hok, rv, q⟩
  cases fl with
  | ret u =>
    obtain ⟨v, σ2, H2, J, rv, q⟩ := hs
    exact fin J rv q
  | next =>
    obtain ⟨σ2, H2, J, q⟩ := hs
    exact fin (v := V.non) (u := Value.none) J rfl q
  | brk =>
    obtain ⟨_, _, _, q⟩ := hs
    exact q.elim
  | cont =>
    obtain ⟨_, _, _, q⟩ := hs
    exact q.elim
section
variable {B : Nat} {P : Program} {w : World} {K : PySem.W.Frag} {mg : Str → Option Value} {base : Heap}
theorem FnB.mono {j k : Nat} {f : Addr} {fd : FuncData} {ps : List Str} {sp : Sp} (F : FnB B P w K mg base j f fd ps sp) (h : j ≤ k) : FnB B P w K mg base k f fd ps sp := ⟨F.len, fun A outer s H args us vs Q E hB hr => F.run A outer s H args us vs Q E hB (hr.mono h)⟩
/-- THE RULE for a def of the module -/
theorem calB_of {x : Str} {st : Stmt} {f : Addr} {fd : FuncData} {N ps : List Str} {k : Nat} {sp : Sp} (F : FunD K x x (defArgs st) (defBody st) (defScope st) [] [] f fd) (hm : mg x = some (.ref f))
    (b : Binds K fd ps []) (S : FnScope N ps (defScope st)) (len : ∀ vs H Q E, sp vs H Q E → vs.length = ps.length)
    (hbody : ∀ (cdv : Value) (A : Around) (outer : List Env) (s : Shared) (H : Hp) (vs : List V) (Q : VK) (E : XK), Room k (A.deeper (envOfC x (defScope st) s.heap.objs.size f cdv)) → sp vs H Q E →
      ∃ t, Ssb B (cxOf C8.CX0 P w K mg base N x (defScope st) f cdv A outer s H E).nox (defBody st) t ∧ t { nx := fun _ H' => Q .non H', rt := Q } (start N vs) H) : CalB B P w K mg base (k + 1) x sp := by
  refine ⟨f, fd, ps, fnB_of F S len fun cdv A outer s H vs Q E hr hsp => ?_, hm, F.kp, b⟩
  obtain ⟨t, h, q⟩ := hbody cdv A outer s H vs Q E hr hsp
  exact ⟨t, ⟨fun pins s2 σ2 H2 D hB I hw => wpAny_mono (h.run pins s2 σ2 H2 D hB (I.wish _) hw) (fun fl s3 q3 => SP.unwish q3) fun _ _ z => z.elim⟩, q⟩
end
section
variable {B : Nat} {X : Cx} {k j : Nat} {x : Str} {sp : Sp} {p pos : Pos} {e : Expr} {es : List Expr} {t : TA}
theorem eb_c (c : CalB B X.prog X.w X.K X.mg X.base k x sp) (hr : Room j X.A) (hk : k ≤ j) (hg : Gl X x) (ha : PA X (e :: es) t)
    (hdb : (x == ("__debug__" : Str)) = false := by decide) (he : starEach (e :: es) X.env = (false, eval e X.env) :: starEach es X.env := by rfl) (hpl : (backTo pos (starEach es X.env)).any (·.1) = false := by rfl) :
    Eb B X (.Call (.Name x p) (e :: es) [] pos) (tCall sp [] C8.E0 t) := by
  obtain ⟨f, fd, ps, F, hm, kp, b⟩ := c.ex
  refine ⟨fun pins s σ H Q hB I h => ?_⟩
  refine wpAny_Call_Name_kw (ld_glob I hg hm ?_ hdb)
  refine PySem.W.callWith_K (h₀ := X.base) I.ok.mod.kin kp (thB hB (ha.run pos pins s σ H _ I h) fun us s1 hB1 ⟨vs, H1, I1, r, q⟩ => ⟨I1.kIn, ?_⟩) he hpl
  have hq : sp vs H1 Q C8.E0 := by simpa using q
  have hl : (us ++ []).length = ps.length := by rw [List.append_nil, ← r.length]; exact F.len _ _ _ _ hq
  refine wpAny_call (codeAny_mono ((F.mono hk).run X.A X.stack s1 H1 ⟨us, []⟩ us vs Q C8.E0 hB1 hr I1.env0 (by simpa using b s1 us I1.kIn hl) r hq) fun res s2 hres => ?_)
  cases res with
  | error er => exact C8.pass0 (E := C8.E0) pins σ H1 s1 er s2 I1 hres
  | ok fl =>
    cases fl with
    | ret u => exact I1.after hres
    | next => exact hres.elim
    | brk => exact hres.elim
    | cont => exact hres.elim
end
/-! ### loops -/
section
variable {B : Nat} {X : Cx} {tg iter elt : Expr} {body : List Stmt} {wi : TI} {g : TG} {tb : TS} {pos : Pos}
theorem sb_for (hp : PassesOwn (model X.prog X.w) X.A X.env X.xe) (hc : X.calm = true) (hi : PI X tg iter wi) (hg : PG X tg g) (hb : Ssb B X body tb) (hs : ∀ x, foldedSetIterable iter X.env x = pure x := by intro _; rfl) : Sb B X (.For tg iter body [] pos) (tFor wi g tb) := by
  refine ⟨fun pins s σ H D hB I h => ?_⟩
  refine wpAny_For (thB hB (hi.run pins s σ H _ I h) fun v s1 hB1 h1 => thB hB1 h1 fun itv s2 hB2 h2 => ?_) hs
  obtain ⟨it, fp, tn, J, H2, rfl, I2, T, st2, f2, W, ⟨m0, w0⟩, turn⟩ := h2
  have ok : ∀ {H' : Hp}, (∀ b ∈ fp, H' b = none) → ∀ b ∈ fp, FpOk X pins H' b := fun hn b hb => ⟨hn b hb, (f2 b hb).2⟩
  refine codeAny_forLoop_any (fun n s3 => B ≤ s3.toks ∧ ∃ i σ3 H3, Inv X pins σ3 H3 s3 ∧ tn i s3.heap ∧ (∀ b ∈ fp, H3 b = none) ∧ W i n σ3 H3) ?_ m0 ⟨hB2, 0, σ, H2, I2, st2, fun b hb => (f2 b hb).1, w0⟩
  rintro n s3 ⟨hB3, i, σ3, H3, I3, st3, n3, w3⟩
  rcases turn i n σ3 H3 w3 with ⟨stop, q3⟩ | ⟨go, N, hN, step⟩
  · refine wpAny_passesOwn hp (L2.thn (T.done X rfl rfl rfl hc i pins s3 σ3 H3 X.xe I3 (ok n3) st3 stop) fun r s4 q4 => ?_)
    obtain ⟨rfl, I4⟩ := q4
    exact wpAny_execs_nil ⟨σ3, H3, I4, q3⟩
  · refine wpAny_passesOwn hp (thB hB3 (T.item X rfl rfl rfl hc i pins s3 σ3 H3 X.xe I3 (ok n3) st3 go) fun r s4 hB4 q4 => ?_)
    obtain ⟨u, rfl, h4⟩ := q4
    refine wpAny_passesOwn hp (thB hB4 h4 fun _ s5 hB5 q5 => ?_)
    obtain ⟨x, H5, I5, r5, y5, st5, n5⟩ := q5
    have J5 := I5.pinned (ok n5) (T.obj _ _ st5)
    refine wpAny_passesOwn hp (thB hB5 (hg.run _ s5 σ3 H5 x u _ J5 r5 (step x H5 y5)) fun _ s6 hB6 q6 => ?_)
    obtain ⟨σ6, H6, I6, q6⟩ := q6
    refine wpAny_passesOwn hp (thB hB6 (hb.run _ s6 σ6 H6 _ hB6 I6 q6) fun f s7 hB7 q7 => ?_)
    have next : ∀ (σ7 : L2.St) (H7 : Hp), Inv X (pins ++ pinsAt fp s5.heap) σ7 H7 s7 → N σ7 H7 → ∃ m, m < n ∧ B ≤ s7.toks ∧ ∃ i σ' H', Inv X pins σ' H' s7 ∧ tn i s7.heap ∧ (∀ b ∈ fp, H' b = none) ∧ W i m σ' H' := fun σ7 H7 I7 n7 => by
      obtain ⟨m', hm, w7⟩ := hN σ7 H7 n7
      have at7 : ∀ b ∈ fp, ∀ o, s5.heap.get? b = some o → s7.heap.get? b = some o ∧ H7 b = none := fun b hb o e =>
        let z := I7.pin (b, o) (List.mem_append_right _ (List.mem_append_right _ (mem_pinsAt hb e)))
        ⟨z.1, z.2.1⟩
      refine ⟨m', hm, hB7, i + 1, σ7, H7, I7.unpinned, T.keep _ _ _ st5 fun b hb o e => (at7 b hb o e).1, fun b hb => ?_, w7⟩
      obtain ⟨o, e, _⟩ := T.obj _ _ st5 b hb
      exact (at7 b hb o e).2
    cases f with
    | next =>
      obtain ⟨σ7, H7, I7, n7⟩ := q7
      exact next σ7 H7 I7 n7
    | cont =>
      obtain ⟨σ7, H7, I7, n7⟩ := q7
      exact next σ7 H7 I7 n7
    | brk =>
      obtain ⟨σ7, H7, I7, q7⟩ := q7
      exact ⟨σ7, H7, I7.unpinned, q7⟩
    | ret v =>
      obtain ⟨x7, σ7, H7, I7, r7, q7⟩ := q7
      exact ⟨x7, σ7, H7, I7.unpinned, r7, q7⟩
/-- [elt for target in iter if ..] -/
theorem eb_lc {ifs : List Expr} {scope : Scope} {own : List (Str × Nat)} {tt : TT} {te : TE} (hc : X.calm = true) (hN : X.N.Nodup) (hi : PI X tg iter wi) (ok : BlkOk X.N X.env.scope scope own)
    (hg : ∀ (s : Shared) (H : Hp) (C : Addr) (cl : List (Str × Addr)) (fp : List Addr), PG (X.blk s H scope (compEnvC scope cl C X.env) fp) tg g) (ht : ∀ (s : Shared) (H : Hp) (C : Addr) (cl : List (Str × Addr)) (fp : List Addr), Tsb B (X.blk s H scope (compEnvC scope cl C X.env) fp) ifs tt)
    (he : ∀ (s : Shared) (H : Hp) (C : Addr) (cl : List (Str × Addr)) (fp : List Addr), Eb B (X.blk s H scope (compEnvC scope cl C X.env) fp) elt te) (hs : ∀ x, foldedSetIterable iter X.env x = pure x := by intro _; rfl) :
    Eb B X (.ListComp elt [⟨tg, iter, ifs, 0⟩] scope pos) (tLc wi g tt te (own.map (·.2))) := by
  refine ⟨fun pins s σ H Q hB I h => ?_⟩
  rw [eval_ListComp]
  have cells : ∀ y ∈ scope.names, y.2 = .free → ∃ c, X.env.cells.lookup y.1 = some c := fun y hy e => (ok.free y hy e).elim (fun k => I.ok.has _ (.inl k)) fun k => I.ok.has _ (.inr k)
  refine wpAny_comprehension_free rfl hs (closure_ok cells) ok.kind (fun y hy e => by rw [ok.uniq y hy, e]) (thB hB (hi.run pins s σ H _ I h) fun xv s1 hB1 hx => thB hB1 hx fun itv s2 hB2 h2 => ?_)
  obtain ⟨it, fp, tn, J, H2, rfl, I2, T, st2, f2, q⟩ := h2
  refine wpAny_newObj_type (newEnv_comp ?_) (by show 0 ≤ sizeLine; decide)
  generalize hD : s2.heap.objs.size = D
  have newD : H2 D = none := I2.hok.fresh (Nat.le_of_eq hD)
  obtain ⟨W, ⟨m0, w0⟩, turn⟩ := q D newD
  generalize hs3 : ({ s2 with heap := s2.heap.push { cls := .type "list", data := .seq ([] : List Value).toArray } } : Shared) = s3
  have hB3 : B ≤ s3.toks := by rw [← hs3]; exact hB2
  have heap3 : s3.heap = s2.heap.push { cls := .type "list", data := .seq ([] : List Value).toArray } := by rw [← hs3]
  have I3 : Inv X pins σ (upd H2 D (.lst [])) s3 := by
    rw [← hs3]
    refine I2.laid (t' := s2.toks) (fun b o e => Heap.get?_push_of_some _ e) (Nat.le_of_eq hD) ⟨Nat.zero_le _, [], 0, .nil, ?_⟩
    rw [← hD]
    exact Heap.get?_push_size _ rfl
  have below : ∀ b ∈ fp, b < s2.heap.objs.size := fun b hb => by
    obtain ⟨o, e, _⟩ := T.obj _ _ st2 b hb
    exact Heap.lt_size e
  have f3 : ∀ b ∈ fp, FpOk X pins (upd H2 D (.lst [])) b ∧ b < s3.heap.objs.size := fun b hb => by
    have hlt := below b hb
    refine ⟨⟨?_, (f2 b hb).2⟩, by rw [heap3, Heap.size_push]; exact Nat.lt_succ_of_lt hlt⟩
    rw [upd_ne (by rw [← hD]; exact Nat.ne_of_lt hlt)]
    exact (f2 b hb).1
  have st3 : tn 0 s3.heap := T.keep _ _ _ st2 fun b _ o e => by rw [heap3]; exact Heap.get?_push_of_some _ e
  have I4 := block_start I3 ok hN f3
  have pg := hg s3 (upd H2 D (.lst [])) s3.heap.objs.size (cellsFrom (s3.heap.objs.size + 1) scope.names (cloFrom X.env.cells scope.names [])) fp
  have pt := ht s3 (upd H2 D (.lst [])) s3.heap.objs.size (cellsFrom (s3.heap.objs.size + 1) scope.names (cloFrom X.env.cells scope.names [])) fp
  have pe := he s3 (upd H2 D (.lst [])) s3.heap.objs.size (cellsFrom (s3.heap.objs.size + 1) scope.names (cloFrom X.env.cells scope.names [])) fp
  show codeAny _ _ (.compStart (.ListComp elt [⟨tg, iter, ifs, 0⟩] scope pos) 0 (.ref it) (.ref D) (compEnvC scope (cellsFrom (s3.heap.objs.size + 1) scope.names (cloFrom X.env.cells scope.names [])) s3.heap.objs.size X.env)) _ { s3 with heap := pushCells (s3.heap.push { cls := .type "dict", data := .dict #[] }) scope.names }
  have none3 : ∀ b ∈ fp, (upd H2 D (.lst [])) b = none := fun b hb => (f3 b hb).1.1
  generalize hce : compEnvC scope (cellsFrom (s3.heap.objs.size + 1) scope.names (cloFrom X.env.cells scope.names [])) s3.heap.objs.size X.env = ce at I4 pg pt pe ⊢
  have loc : ce.locals = s3.heap.objs.size := by subst hce; rfl
  generalize hH3 : upd H2 D (.lst []) = H3 at I3 I4 pg pt pe w0 none3 f3
  generalize hs4 : ({ s3 with heap := pushCells (s3.heap.push { cls := .type "dict", data := .dict #[] }) scope.names } : Shared) = s4 at I4 ⊢
  have hB4 : B ≤ s4.toks := by rw [← hs4]; exact hB3
  have st4 : tn 0 s4.heap := T.keep _ _ _ st3 fun b _ o e => by rw [← hs4]; exact pushCells_keeps _ _ _ _ (Heap.get?_push_of_some _ e)
  have okB : ∀ {σ' : L2.St} {H' : Hp} {s' : Shared}, Inv (X.blk s3 H3 scope ce fp) [] σ' H' s' → (∀ b ∈ fp, H' b = none) → ∀ b ∈ fp, FpOk (X.blk s3 H3 scope ce fp) [] H' b := fun {σ' H' s'} I' hn b hb =>
    ⟨hn b hb, (I'.ok.exf b hb).1, I'.ok.exfs b hb, .inl hb, fun x c e => (I'.ok.exf b hb).2 x c e, fun p hp => absurd (show p ∈ ([] : List (Addr × Obj)) ++ [] from hp) (by simp)⟩
  have loop : codeAny (model X.prog X.w) X.A (.compLoop (.ListComp elt [⟨tg, iter, ifs, 0⟩] scope pos) 0 (.ref it) (.ref D) ce) (compPost (model X.prog X.w) X.A X.xe none (EP X pins σ Q) (.ref D) s3.heap.objs.size) s4 := by
    refine compLoop_any (fun n s' => B ≤ s'.toks ∧ ∃ i H', Inv (X.blk s3 H3 scope ce fp) [] (wipe σ (own.map (·.2))) H' s' ∧ tn i s'.heap ∧ (∀ b ∈ fp, H' b = none) ∧ W i n H') ?_ m0 ⟨hB4, 0, H3, I4, st4, none3, w0⟩
    rintro n s5 ⟨hB5, i, H5, I5, st5, n5, w5⟩
    rcases turn i n H5 w5 with ⟨stop, q5⟩ | ⟨go, Nx, hNx, step⟩
    · refine thBF hB5 (T.done (X.blk s3 H3 scope ce fp) rfl rfl rfl hc i [] s5 _ H5 (fun _ _ => False) I5 (okB I5 n5) st5 stop) fun r s6 _ q6 => ?_
      obtain ⟨rfl, I6⟩ := q6
      have I7 : Inv X pins σ H5 s6 := I3.call' (ch := fp) I6.os I6.base I6.hok I6.bare fun b hb => ⟨(f3 b hb).1.2.2.2.1, (f3 b hb).1.2.1, (f3 b hb).1.2.2.2.2.1, (f3 b hb).1.2.2.2.2.2⟩
      have freeL : H5 s3.heap.objs.size = none := by
        have z : H5 ce.locals = none := I6.free
        rwa [loc] at z
      obtain ⟨m, hn, _⟩ := I6.loc
      have hn : s6.heap.Ns ce.locals m := hn
      rw [loc] at hn
      obtain ⟨f0, f1, f2, f3, f4, f5⟩ := I3.fpOk (Nat.le_refl _) freeL
      exact ⟨m, hn, fun h6 sb => ⟨.ref D, H5, I7.turned (t' := s6.toks) (fun b o hb e => (sb.2 b hb).trans e) f0 f1 f3 f4 f5, rfl, q5⟩⟩
    · refine thBF hB5 (T.item (X.blk s3 H3 scope ce fp) rfl rfl rfl hc i [] s5 _ H5 (fun _ _ => False) I5 (okB I5 n5) st5 go) fun r s6 hB6 q6 => ?_
      obtain ⟨u, rfl, h6⟩ := q6
      refine thBF hB6 h6 fun _ s7 hB7 q7 => ?_
      obtain ⟨x, H7, I7, r7, y7, st7, n7⟩ := q7
      have J7 := I7.pinned (okB I7 n7) (T.obj _ _ st7)
      refine thBF hB7 (pg.run _ s7 _ H7 x u _ J7 r7 (step x H7 y7)) fun _ s8 hB8 q8 => ?_
      obtain ⟨σ8, H8, I8, hw8, q8⟩ := q8
      refine thBF hB8 (pt.run _ s8 σ8 H8 _ hB8 I8 q8) fun b s9 hB9 q9 => ?_
      obtain ⟨H9, I9, q9⟩ := q9
      have fin : ∀ {s' : Shared} {H' : Hp}, B ≤ s'.toks → Inv (X.blk s3 H3 scope ce fp) ([] ++ pinsAt fp s7.heap) σ8 H' s' → Nx H' → ∃ m, m < n ∧ B ≤ s'.toks ∧ ∃ i H', Inv (X.blk s3 H3 scope ce fp) [] (wipe σ (own.map (·.2))) H' s' ∧ tn i s'.heap ∧ (∀ b ∈ fp, H' b = none) ∧ W i m H' := fun {s' H'} hB' I' nx => by
        obtain ⟨m', hm, w'⟩ := hNx H' nx
        have at' : ∀ b ∈ fp, ∀ o, s7.heap.get? b = some o → s'.heap.get? b = some o ∧ H' b = none := fun b hb o e =>
          let z := I'.pin (b, o) (List.mem_append_right _ (List.mem_append_right _ (mem_pinsAt hb e)))
          ⟨z.1, z.2.1⟩
        have hl : (wipe σ (own.map (·.2))).length = σ8.length := by rw [← hw8, wipe_length]
        refine ⟨m', hm, hB', i + 1, H', (I'.unpinned (pins := [])).weak hl (fun j v e => ?_), T.keep _ _ _ st7 fun b hb o e => (at' b hb o e).1, fun b hb => ?_, w'⟩
        · rw [← hw8] at e
          exact (wipe_some e).1
        · obtain ⟨o, e, _⟩ := T.obj _ _ st7 b hb
          exact (at' b hb o e).2
      cases b with
      | false =>
        simp only [Bool.false_eq_true, if_false] at q9 ⊢
        exact fin hB9 I9 q9
      | true =>
        simp only [if_true] at q9 ⊢
        refine thBF hB9 (pe.run _ s9 σ8 H9 _ hB9 I9 q9) fun z s10 hB10 q10 => ?_
        obtain ⟨yv, H10, I10, r10, acc, hD10, hz10, nx⟩ := q10
        exact wpAny_with_toks hB10 (app_ok (X := X.blk s3 H3 scope ce fp) I10 hD10 hz10 r10 fun s11 I11 hB11 => fin hB11 I11 nx)
  exact codeAny_compStart_list loop (T.self X.A 0 _ _ _ st4 loop)
end
end Fq

set_option Elab.async false
set_option linter.all false
set_option maxRecDepth 100000
set_option maxHeartbeats 4000000
/-! item.replace(TAKE, ''): TAKE is older than B, '' is younger. -/
namespace Fq
open PySem PySem.Spec PyProof.Rows L2 PySem.StrLaws
theorem repl_puts : ∀ l : List Nat, replL [45] [] l = putsOf l
  | [] => replL_nil
  | c :: l => by
    by_cases h : c = 45
    · subst h
      rw [replL_hit (by decide) rfl]
      show [] ++ replL [45] [] l = _
      rw [List.nil_append, repl_puts l]
      rfl
    · rw [replL_miss (fun q => h (by simpa using q)), repl_puts l]
      unfold putsOf
      rw [List.filter_cons_of_pos (by simpa using h)]
theorem replace_S (l : List Nat) : Txt.replace (SX.S l) "-" "" = SX.S (putsOf l) := by
  refine TL.ext_tl ?_
  show (Txt.replace (SX.S l) "-" "").cps.toList = (putsOf l).toArray.toList
  rw [replace_list (by decide), ← repl_puts]
  rfl
def tRepl (i : Nat) : TE := fun σ H Q => ∃ l : List Nat, σ[i]? = some (some (.str (SX.S l))) ∧ l.length ≤ 100000 ∧ Q (.str (SX.S (putsOf l))) H
theorem eb_replace {B : Nat} {X : Cx} {i : Nat} {x : Str} {u : Tok} {j : Nat} {p1 p2 c0 apos pos : Pos} (hN : X.N[i]? = some x := by rfl) (hv : Vis X.env.scope x := by first | exact .inl rfl | exact .inr (.inl rfl)) (hm : X.mg "TAKE" = some (.str "-" u)) (hg : Gl X "TAKE") (u0 : u ≠ 0) (uB : u < B)
    (hd : (x == ("__debug__" : Str)) = false := by decide) (hcd : (x == ("__classdict__" : Str)) = false := by decide)
    (hst : starEach [.Name "TAKE" p2, .Constant (.str "") j c0] X.env = [(false, eval (.Name "TAKE" p2) X.env), (false, eval (.Constant (.str "") j c0) X.env)] := by rfl)
    (hbase : attributeBase (.Name x p1) "replace" X.env (eval (.Name x p1) X.env) = eval (.Name x p1) X.env := by rfl) (hline : (apos.endLine == pos.line) = true := by rfl) :
    Eb B X (.Call (.Attribute (.Name x p1) "replace" apos) [.Name "TAKE" p2, .Constant (.str "") j c0] [] pos) (tRepl i) := by
  refine ⟨fun pins s σ H Q hB I h => ?_⟩
  obtain ⟨l, hx, hl, q⟩ := h
  refine PySem.Call_method2 hbase hst hline (raw_name hN hv I hx (fun v r => ?_) hd hcd)
  obtain ⟨tx, rfl⟩ := r
  refine ⟨"str", _, F.plainAttrs_str, F.slot_str_replace, F.type_str_replace, typeIs_str _ _ _, (fun _ e => nomatch e), Calls.callWith_builtin rfl (Calls.evalArgs_plain (Calls.spliced_cons ?_))⟩
  refine ld_glob I hg hm ?_
  refine Calls.spliced_cons (Calls.Constant_str ?_)
  refine Calls.spliced_nil ?_
  refine PySem.SC.replace u0 (Nat.ne_of_gt (Nat.lt_of_le_of_lt (Nat.zero_le _) (Nat.lt_of_lt_of_le uB hB))) (Nat.ne_of_lt (Nat.lt_of_lt_of_le uB hB)) (by decide) ?_ fun t' k => ⟨.str (SX.S (putsOf l)), H, I.tok k, ⟨t', by rw [replace_S]⟩, q⟩
  rw [Slen]
  show l.length + (l.length + 1) * 0 ≤ _
  omega
end Fq

set_option Elab.async false
set_option linter.all false
set_option maxRecDepth 100000
set_option maxHeartbeats 4000000
/-! set(a list of ints) as a tracked set; sorted of a set of any size. -/
namespace Fq
open PySem PySem.Spec PyProof.Rows L2
section
variable {P : Program} {w : World} {A : Around} {E : Value → Shared → Prop} {s : Shared}
def emptySet (w : World) : Obj := { cls := .type "set", dict := none, data := .set #[] 0 (.fresh 0 0 (!w.params.followText "set-order")) }
set_option maxHeartbeats 8000000 in
theorem set_of_list {l : Addr} {items : Array Value} (ns : List Int) {Q : Value → Shared → Prop} (hh : A.handled = none) (hl : s.heap.IsList l items) (hit : IntsAre items.toList ns) (hb : ns.length + 1 < scanBound)
    (fin : ∀ (h2 : Heap) (tk c : Nat), SetR w h2 s.heap.objs.size (fun j => decide (j ∈ ns)) c → c ≤ ns.length → (∀ b o, s.heap.get? b = some o → h2.get? b = some o) → Q (.ref s.heap.objs.size) { s with heap := h2, toks := tk }) :
    wpAny (model P w) A (call (.type "set") [.ref l]) Q E s := by
  have size : items.size = ns.length := by
    have q := IntsAre.length hit
    rwa [Array.length_toList] at q
  obtain ⟨c, tl, hmro⟩ := F.called_set.mro
  have hmade := F.called_set.made
  have hsub := F.called_set.sub
  refine wpAny_call (codeAny_of_tree ?_)
  show wpAny _ _ (callAny (.type "set") _) _ _ _
  refine wpAny_pure ⟨Code.quiet_builtin _ (by decide +kernel), codeAny_builtin F.entry_type_call ?_⟩
  rw [Around.under_plain (weight_type_call_type "set" [.ref l] []) rfl]
  have h1 := F.called_set.notType
  have h2 := F.called_set.canCreate
  have hct := F.typeCall_set_1 (.ref l)
  repeat (any_goals (first | assumption | wp_step))
  refine codeAny_mono (code_set_led1 (.ref l) (E := E) (Q₁ := fun obj s1 => obj = .ref s.heap.objs.size ∧ s1 = { s with heap := s.heap.push (emptySet w) }) ⟨rfl, rfl⟩) fun r s1 hr => ?_
  cases r with
  | error e => exact hr
  | ok fl =>
    cases fl with
    | ret obj =>
      obtain ⟨rfl, rfl⟩ := hr
      have atS : (s.heap.push (emptySet w)).get? s.heap.objs.size = some (emptySet w) := Heap.get?_push_size _ rfl
      have isS : Shared.TypeIs { s with heap := s.heap.push (emptySet w) } (.ref s.heap.objs.size) "set" := ⟨_, atS, rfl⟩
      have hli := F.called_set.init.lookup
      have hbi := F.called_set.init.bind (.ref s.heap.objs.size)
      repeat (any_goals (first | assumption | wp_step))
      refine codeAny_mono (codeAny_call_builtin (R := wants (fun r s2 => r = .none ∧ ∃ h2 tk c, s2 = { s with heap := h2, toks := tk } ∧ SetR w h2 s.heap.objs.size (fun j => decide (j ∈ ns)) c ∧ c ≤ ns.length ∧
          (∀ b o, s.heap.get? b = some o → h2.get? b = some o)) E) F.called_set.init.plain F.entry_set_init (check_set_init_1 isS ?_)) fun r2 s2 hr2 => ?_
      · obtain ⟨ol, hol, hcl, nl, hdl⟩ := hl
        obtain ⟨ocls, odict, odata, oslots⟩ := ol
        simp only at hcl hdl
        subst hcl
        subst hdl
        have hol' : (s.heap.push (emptySet w)).get? l = some { cls := .type "list", dict := odict, data := .seq items nl, slots := oslots } := Heap.get?_push_of_some _ hol
        have hsls := F.sub_list_set
        have hslf := F.sub_list_frozenset
        have hne : (Value.type "list" == Value.type "dict") = false := by decide
        have hl1 : (s.heap.push (emptySet w)).IsList l items := ⟨_, hol', rfl, nl, rfl⟩
        unfold Builtin.«set.__init__» noKeywords Builtin.Frozenset.updateFrom
        generalize hPI : pyIter = PI
        wp_walk
        subst hPI
        refine wpAny_pyIter_list hl1 ?_
        refine wpAny_bind (wpAny_runValue ?_)
        have lt : l < s.heap.objs.size := Heap.lt_size hol
        have hh3 : A.in1.in1.in1.handled = none := by simp [hh]
        have hz : (s.heap.push (emptySet w)).objs.size = s.heap.objs.size + 1 := Heap.size_push ..
        have hneI : l ≠ (s.heap.push (emptySet w)).objs.size := by rw [hz]; exact Nat.ne_of_lt (Nat.lt_succ_of_lt lt)
        have hSf : s.heap.objs.size ∉ [(s.heap.push (emptySet w)).objs.size, l] := by
          rw [hz]
          simp only [List.mem_cons, List.not_mem_nil, or_false, not_or]
          exact ⟨Nat.ne_of_lt (Nat.lt_succ_self _), Nat.ne_of_gt lt⟩
        have vals : ∀ (i : Nat) (v : Value), items[i]? = some v → ∃ k t, ns[i]? = some k ∧ v = .int k t := fun i v hv => by
          have hi : i < ns.length := by rw [← size]; exact (Array.getElem?_eq_some_iff.mp hv).1
          obtain ⟨t, e⟩ := PyProof.Rows.IntsAre.int_at hit i v (by rw [Array.getElem?_toList]; exact hv)
          refine ⟨ns[i], t, List.getElem?_eq_getElem hi, ?_⟩
          rw [e, List.getD_eq_getElem?_getD, List.getElem?_eq_getElem hi] <;> rfl
        refine set_update_ints ((Walks.list hh3 _ l hneI items).toS) s.heap.objs.size hSf ns size hb vals (items.size - 0) 0 _ (by omega) (Nat.zero_le _) ⟨⟨_, Heap.get?_push_size _ rfl, rfl, rfl⟩, (hl1.push _)⟩ ?start ?stop
        case start =>
          have hget : ((s.heap.push (emptySet w)).push { cls := .type "list_iterator", data := .fields #[.ref l, .int 0 0] }).get? s.heap.objs.size = some (emptySet w) := Heap.get?_push_of_some _ atS
          exact ⟨0, Nat.le_refl 0, setR_new_at hget⟩
        case stop =>
          intro s3 c3 hm hc3 hS3
          obtain ⟨h3, g3, d3, t3, os3⟩ := s3
          have eg : g3 = s.gens := hm.gens
          have ed : d3 = s.drawn := hm.drawn
          have eo : os3 = s.os := hm.os
          subst eg
          subst ed
          subst eo
          show wpAny _ _ _ _ _ _
          refine wpAny_pure ?_
          show wpAny _ _ (ret Value.none) _ _ _
          rw [size] at hc3
          refine wpAny_pure ⟨rfl, h3, t3, c3, rfl, hS3, hc3, fun b o e => ?_⟩
          have hb0 : b < s.heap.objs.size := Heap.lt_size e
          refine hm.heap b o ?_ (Heap.get?_push_of_some _ (Heap.get?_push_of_some _ e))
          simp only [List.mem_cons, List.not_mem_nil, or_false, not_or]
          exact ⟨Nat.ne_of_lt hb0, by rw [hz]; exact Nat.ne_of_lt (Nat.lt_succ_of_lt hb0)⟩
      · cases r2 with
        | error e => exact hr2
        | ok fl2 =>
          cases fl2 with
          | ret r =>
            obtain ⟨rfl, h3, tk, c3, rfl, hS3, hc3, hk3⟩ := hr2
            repeat (any_goals (first | assumption | wp_step))
            exact fin _ _ _ hS3 hc3 hk3
          | _ => exact hr2.elim
    | _ => exact hr.elim
theorem sorted_of_set {a : Addr} {S : Int → Bool} {n : Nat} {Q : Value → Shared → Prop} (R : SetR w s.heap a S n) (hh : A.handled = none)
    (fin : ∀ s2 p (out : List Value) (c : Nat) (ns : List Int), (∀ b o, s.heap.get? b = some o → s2.heap.get? b = some o) → s2.gens = s.gens → s2.os = s.os → s.heap.objs.size ≤ p →
      s2.heap.get? p = some (seqObj "list" out.toArray c) → IntsAre out ns → ns.Pairwise (· < ·) → (∀ k, k ∈ ns ↔ S k = true) → ns.length = n → Q (.ref p) s2) :
    wpAny (model P w) A (call (.builtin "sorted") [.ref a]) Q E s := by
  obtain ⟨o, es, ep, t, ho, hex, hd, g, nd, hm, hb, hf, hn, hr, hl⟩ := R
  refine Calls.call_function_entry kind_sorted plain_sorted entry_sorted (args_sorted1 _) ?_
  unfold Builtin.«sorted»
  refine wpAny_bind (m := checkCount "sorted" 1 1 _) (wpAny_pure ?_)
  refine wpAny_bind (collect_set (A := A.in1) hh ⟨o, ho, hex.1, hd⟩ hf hb hr hl fun s1 vs k1 hz g1 o1 pm => ?_)
  have len : vs.length = n := by rw [pm.length_eq, List.length_map, Array.length_toList]; exact hn
  have small : n ≤ sizeLine := by
    have : n < 4096 := by rw [← hn]; exact hb
    exact Nat.le_trans (Nat.le_of_lt this) (by decide)
  have hI : IntsAre vs (vs.map SrtO.iv) := SrtO.ints_iv fun v hv => by
    obtain ⟨e, he, q⟩ := List.mem_map.mp (pm.mem_iff.mp hv)
    obtain ⟨k, tk, h1, _⟩ := g e he
    exact ⟨k, tk, by rw [← q]; exact h1⟩
  have keys : (vs.map SrtO.iv).Perm (es.toList.map keyOf) := by
    have q := pm.map SrtO.iv
    rw [List.map_map] at q
    refine q.trans (List.Perm.of_eq (List.map_congr_left fun e he => ?_))
    obtain ⟨k, tk, h1, h2⟩ := g e he
    show SrtO.iv e.2 = keyOf e
    rw [key_vInt, h1]
    rfl
  refine wpAny_bind (wpAny_newList ?_ (by rw [len]; exact small))
  have atL : (s1.heap.push (seqObj "list" vs.toArray 0)).get? s1.heap.objs.size = some (seqObj "list" vs.toArray 0) := Heap.get?_push_size _ rfl
  refine wpAny_bind (wpAny_holding (wpAny_call_entry slot_list_sort ⟨_, atL, rfl⟩ entry_list_sort (SrtO.list_sort_ord SrtO.swo_int atL (by rw [len]; exact small) (fun h2 => SrtO.ints_sortable hI h2) fun out a1 a2 => ⟨_, rfl, ?_⟩) (args_list_sort _)))
  obtain ⟨b1, b2, b3⟩ := SrtO.ints_out hI a1 a2
  obtain ⟨c, hc⟩ := sortedHeap_at (vs := vs) (out := out.toArray) atL
  have pn : (out.map SrtO.iv).Perm (es.toList.map keyOf) := b2.trans keys
  refine wpAny_pure ⟨_, rfl, fin _ s1.heap.objs.size out c (out.map SrtO.iv) (fun b u e => ?_) g1 o1 hz hc b1 (lt_of_le_nodup _ b3 (pn.nodup_iff.mpr nd)) (fun k => by rw [pn.mem_iff, ← hm k]) ?_⟩
  · have q := k1 b u e
    have hlt := Heap.lt_size q
    show (sortedHeap (s1.heap.push (seqObj "list" vs.toArray 0)) s1.heap.objs.size vs out.toArray).get? b = some u
    rw [sortedHeap_old (Nat.ne_of_lt hlt) (by rw [size_push']; exact Nat.lt_succ_of_lt hlt)]
    exact Heap.get?_push_of_some _ q
  · rw [pn.length_eq, List.length_map, Array.length_toList]
    exact hn
end
end Fq

set_option Elab.async false
set_option linter.all false
set_option maxRecDepth 100000
set_option maxHeartbeats 4000000
namespace Fq
open PySem PySem.Spec PyProof.Rows L2
section
variable {X : Cx}
theorem cr_setL (hc : X.calm = true) : CallR X (.type "set") (fun xs H Q => ∃ (l : Addr) (ns : List Int), xs = [.ref l] ∧ SqL X.K H l (ns.map V.int) ∧ ns.length ≤ 1000 ∧ ∀ p c, H p = none → Q (.ref p) (upd H p (SetO X.w p (fun j => decide (j ∈ ns)) c))) := by
  rintro pins s σ H xs us Q I r ⟨l, ns, rfl, hq, hl, q⟩
  obtain ⟨its, rv, pl, hz⟩ := I.list hq
  rw [Vals.ref1 r]
  refine set_of_list ns (I.ok.hd hc) pl.isList (by simpa using rv.ints) (by unfold scanBound; omega) fun h2 tk c R _ keep => ?_
  exact ⟨.ref s.heap.objs.size, _, I.laid (t' := tk) (fun b o e => keep b o e) (Nat.le_refl _) (setO_new R), rfl, q _ c (I.hok.fresh (Nat.le_refl _))⟩
theorem cr_sortedL (hc : X.calm = true) : CallR X (.builtin "sorted") (fun xs H Q => ∃ (a : Addr) (S : Int → Bool) (n : Nat), xs = [.ref a] ∧ H a = some (SetO X.w a S n) ∧
    ∀ (ns : List Int) (p : Addr), ns.Pairwise (· < ·) → (∀ k : Int, k ∈ ns ↔ S k = true) → H p = none → Q (.ref p) (upd H p (.lst (ns.map V.int)))) := by
  rintro pins s σ H xs us Q I r ⟨a, S, n, rfl, ha, q⟩
  have R := setO_get I ha
  rw [Vals.ref1 r]
  have small : n ≤ sizeLine := by
    obtain ⟨o, es, ep, t, _, _, _, _, _, _, hb, _, hn, _⟩ := id R
    have : n < 4096 := by rw [← hn]; exact hb
    exact Nat.le_trans (Nat.le_of_lt this) (by decide)
  refine sorted_of_set R (I.ok.hd hc) fun s2 p out c ns keep g o hp hg hi hs hm hl => ?_
  have fresh : H p = none := I.hok.fresh hp
  have len : (ns.map V.int).length ≤ sizeLine := by rw [List.length_map, hl]; exact small
  have J : Inv X pins σ (upd H p (.lst (ns.map V.int))) { s with heap := s2.heap, gens := s2.gens, drawn := s2.drawn, toks := s2.toks } :=
    I.call (ch := []) (Un.laid keep hp fresh) (I.hok.laid keep hp ⟨len, out, c, vals_of_ints hi, hg⟩) (by rw [g]; exact I.bare) (fun _ z => nomatch z)
  have e : s2 = { s with heap := s2.heap, gens := s2.gens, drawn := s2.drawn, toks := s2.toks } := by
    cases s2
    cases s
    cases o
    rfl
  rw [e]
  exact ⟨.ref p, _, J, rfl, q ns p hs hm fresh⟩
theorem sorted_one {a b : List Int} (ha : a.Pairwise (· < ·)) (hb : b.Pairwise (· < ·)) (h : ∀ k, k ∈ a ↔ k ∈ b) : a = b :=
  PySem.W.os_sorted_one ((List.perm_ext_iff_of_nodup (ha.imp fun q => Int.ne_of_lt q) (hb.imp fun q => Int.ne_of_lt q)).mpr h) (ha.imp fun q => Int.le_of_lt q) (hb.imp fun q => Int.le_of_lt q)
end
end Fq

set_option Elab.async false
set_option linter.all false
set_option maxRecDepth 100000
set_option maxHeartbeats 4000000
/-! A dict whose keys are rows: None, or a pair of an int and a text. -/
namespace Fq
open PySem PySem.Spec PyProof.Rows L2
section
variable {P : Program} {w : World} {A : Around} {E : Value → Shared → Prop} {s : Shared}
/-- u is the row r, in the heap -/
def RKey (P : Program) (w : World) (h : Heap) (r : Row) (u : Value) : Prop := match r with
  | none => u = .none
  | some (k, z) => ∃ a, u = .ref a ∧ (tupleKind (mixKind P w)).is h [.inl (k : Int), .inr (SX.S z)] a ∧ ∃ as, Reads h (.ref a) (rowD (some (k, z))) as
def rowHash (P : Program) (w : World) : Row → Int
  | none => reduceHash 0xFCA86420
  | some (k, z) => tupleKeyHash (mixKind P w) [.inl (k : Int), .inr (SX.S z)]
theorem rk_reads {h : Heap} {r : Row} {u : Value} (k : RKey P w h r u) : ∃ as, Reads h u (rowD r) as := by
  cases r with
  | none =>
    have e : u = .none := k
    subst e
    exact ⟨_, Reads.none⟩
  | some r =>
    obtain ⟨a, rfl, _, q⟩ := k
    exact q
theorem rk_hash {r : Row} {u : Value} {Q : Int → Shared → Prop} (hu : A.units < cLine) (k : RKey P w s.heap r u) (h : ∀ tk, Q (rowHash P w r) { s with toks := tk }) : wpAny (model P w) A (pyHash u) Q E s := by
  cases r with
  | none =>
    have e : u = .none := k
    subst e
    exact (noneKind P w).pyHash (k := none) rfl (h _)
  | some r =>
    obtain ⟨a, rfl, q, _⟩ := k
    exact (tupleKind (mixKind P w)).pyHash hu q (h _)
theorem rk_eq {r q : Row} {u v : Value} {Q : Bool → Shared → Prop} (hu : A.units + 8 < cLine) (k : RKey P w s.heap r u) (k' : RKey P w s.heap q v) (hr : Signs r) (hq : Signs q) (h : Q (decide (r = q)) s) : wpAny (model P w) A (eqBool u v) Q E s := by
  obtain ⟨as, ra⟩ := rk_reads k
  obtain ⟨bs, rb⟩ := rk_reads k'
  refine SeqAt.eqBoolOverData P w A E s u v (rowD r) (rowD q) as bs Q ra rb (lay_row hr) (lay_row hq) ?_ (by rw [eqv_row]; exact h)
  have := depth_row r
  have : min (rowD r).depth (rowD q).depth ≤ 1 := Nat.le_trans (Nat.min_le_left _ _) this
  omega
theorem rk_quiet {r : Row} {u : Value} {Q : Bool → Shared → Prop} (k : RKey P w s.heap r u) (h : Q true s) : wpAny (model P w) A (eqIsQuiet 8 u) Q E s := by
  cases r with
  | none =>
    have e : u = .none := k
    subst e
    exact wpAny_pure h
  | some r =>
    obtain ⟨a, rfl, q, _⟩ := k
    exact (tupleKind (mixKind P w)).quiet q h
theorem rk_one {h : Heap} {r q : Row} {u : Value} (k : RKey P w h r u) (k' : RKey P w h q u) : r = q := by
  cases r with
  | none =>
    have e : u = .none := k
    subst e
    cases q with
    | none => rfl
    | some q =>
      obtain ⟨a, z, _⟩ := k'
      cases z
  | some r =>
    obtain ⟨a, rfl, x, _⟩ := k
    cases q with
    | none => exact nomatch (show Value.ref a = .none from k')
    | some q =>
      obtain ⟨b, z, y, _⟩ := k'
      cases z
      have e := (tupleKind (mixKind P w)).inj x y
      injection e with e1 e2
      injection e2 with e2 _
      have e1 := Sum.inl.inj e1
      have e2 := SX.S_inj (Sum.inr.inj e2)
      have e1 : r.1 = q.1 := by omega
      exact congrArg some (Prod.ext e1 e2)
/-- an entry -/
def entR (P : Program) (w : World) (x : Row × Value × Value) : DictEntry := ⟨rowHash P w x.1, x.2.1, x.2.2⟩
abbrev findR (xs : List (Row × Value × Value)) (r : Row) : Option Nat := xs.findIdx? fun x => decide (x.1 = r)
theorem findR_step {xs : List (Row × Value × Value)} {r : Row} {i : Nat} {x : Row × Value × Value} (h : xs[i]? = some x) : findR (xs.take (i + 1)) r = (findR (xs.take i) r).or (if x.1 = r then some i else none) := by
  have hi : i < xs.length := (List.getElem?_eq_some_iff.mp h).1
  unfold findR
  rw [List.take_add_one, h, List.findIdx?_append]
  have e : (xs.take i).length = i := by rw [List.length_take]; omega
  by_cases q : x.1 = r
  · simp [q, e, List.findIdx?_cons]
  · simp [q, List.findIdx?_cons]
theorem findR_skip {xs : List (Row × Value × Value)} {r : Row} {i : Nat} : ∀ {j : Nat}, i ≤ j → j ≤ xs.length → (∀ (m : Nat) (x : Row × Value × Value), i ≤ m → m < j → xs[m]? = some x → x.1 ≠ r) → findR (xs.take j) r = findR (xs.take i) r
  | 0, h, _, _ => by
    have e : i = 0 := by omega
    rw [e]
  | j + 1, h, hl, hn => by
    by_cases e : i = j + 1
    · rw [e]
    · have hj : xs[j]? = some xs[j] := List.getElem?_eq_getElem (by omega)
      rw [findR_step hj, if_neg (hn j _ (by omega) (by omega) hj), Option.or_none]
      exact findR_skip (by omega) (by omega) fun m x h1 h2 => hn m x h1 (by omega)
theorem findR_late {xs : List (Row × Value × Value)} {r : Row} {i j : Nat} {x : Row × Value × Value} (hn : (xs.map (·.1)).Nodup) (hf : findR (xs.take i) r = some j) (h : xs[i]? = some x) : x.1 ≠ r := fun e => by
  obtain ⟨hj, q, _⟩ := List.findIdx?_eq_some_iff_getElem.mp hf
  have hj' : j < i := by rw [List.length_take] at hj; omega
  have hi : i < xs.length := (List.getElem?_eq_some_iff.mp h).1
  have q := of_decide_eq_true q
  rw [List.getElem_take] at q
  have h1 : (xs.map (·.1))[j]? = some r := by rw [List.getElem?_map, List.getElem?_eq_getElem (by omega), ← q]; rfl
  have h2 : (xs.map (·.1))[i]? = some r := by rw [List.getElem?_map, h, ← e]; rfl
  have := (List.getElem?_inj (by rw [List.length_map]; omega) hn).mp (h1.trans h2.symm)
  omega
theorem rk_find {d : Addr} {o : Obj} {es : Array DictEntry} {ep : Nat} {xs : List (Row × Value × Value)} {r : Row} {u : Value} {Q : Option Nat → Shared → Prop} (hu : A.units + 8 < cLine) (hk : RKey P w s.heap r u) (hs : Signs r) (ho : s.heap.get? d = some o) (hd : o.data = .dict es ep)
    (he : es.toList = xs.map (entR P w)) (hx : ∀ x ∈ xs, RKey P w s.heap x.1 x.2.1 ∧ Signs x.1) (hn : (xs.map (·.1)).Nodup) (h : Q (findR xs r) s) : wpAny (model P w) A (dictFind d u (rowHash P w r)) Q E s := by
  have hsz : es.size = xs.length := by rw [← Array.length_toList, he, List.length_map]
  have ent : ∀ j : Nat, es[j]? = xs[j]?.map (entR P w) := fun j => by rw [← Array.getElem?_toList, he, List.getElem?_map]
  have mem : ∀ e ∈ es, ∃ x ∈ xs, e = entR P w x := fun e hin => by
    have q : e ∈ xs.map (entR P w) := he ▸ Array.mem_toList_iff.mpr hin
    obtain ⟨x, h1, rfl⟩ := List.mem_map.mp q
    exact ⟨x, h1, rfl⟩
  have samehash : ∀ (j : Nat) (x : Row × Value × Value), xs[j]? = some x → ((es[j]?.map (·.hash)) == some (rowHash P w r)) = false → x.1 ≠ r := fun j x hj hf e => by
    rw [ent j, hj] at hf
    simp [entR, e] at hf
  have nostr : ∀ x t, u ≠ .str x t := fun x t e => by
    subst e
    cases r with
    | none => exact nomatch (show Value.str x t = .none from hk)
    | some r =>
      obtain ⟨a, q, _⟩ := hk
      cases q
  -- one turn, either way of looking
  have turn : ∀ (rest : List Nat) (i x : Nat), x :: rest = (List.range' i (es.size - i)).filter (fun i => (es[i]?.map (·.hash)) == some (rowHash P w r)) → i ≤ es.size →
      ∃ y, xs[x]? = some y ∧ x < es.size ∧ es[x]? = some (entR P w y) ∧ (rowHash P w y.1 == rowHash P w r) = true ∧ findR (xs.take x) r = findR (xs.take i) r ∧ rest = (List.range' (x + 1) (es.size - (x + 1))).filter (fun i => (es[i]?.map (·.hash)) == some (rowHash P w r)) := fun rest i x hr hi => by
    obtain ⟨h1, h2, h3, h4, h5⟩ := filter_range'_cons _ _ _ _ _ hr.symm
    have hlt : x < es.size := by omega
    have hy : xs[x]? = some (xs[x]'(by omega)) := List.getElem?_eq_getElem (by omega)
    have hex := ent x
    rw [hy] at hex
    refine ⟨_, hy, hlt, hex, ?_, ?_, by rw [h5]; congr 2; omega⟩
    · rw [hex] at h3
      simpa [entR] using h3
    · exact findR_skip h1 (by omega) fun m z m1 m2 hz => samehash m z hz (h4 m m1 m2)
  have stop : ∀ i, [] = (List.range' i (es.size - i)).filter (fun i => (es[i]?.map (·.hash)) == some (rowHash P w r)) → i ≤ es.size → findR xs r = findR (xs.take i) r := fun i hr hi => by
    have e : findR (xs.take xs.length) r = findR (xs.take i) r := findR_skip (by omega) (Nat.le_refl _) fun m z m1 m2 hz => samehash m z hz (by
      have q := List.filter_eq_nil_iff.mp hr.symm m (List.mem_range'_1.mpr ⟨m1, by omega⟩)
      simpa using q)
    rwa [List.take_length] at e
  have last : ∀ x (y : Row × Value × Value), xs[x]? = some y → y.1 = r → findR (xs.take x) r = none → findR xs r = some x := fun x y hy e hf => by
    have q := findR_step (r := r) hy
    rw [hf, if_pos e] at q
    have e2 : xs = xs.take (x + 1) ++ xs.drop (x + 1) := (List.take_append_drop _ _).symm
    unfold findR at q ⊢
    rw [e2, List.findIdx?_append, q]
    rfl
  have start : (List.range es.size).filter (fun i => (es[i]?.map (·.hash)) == some (rowHash P w r)) = (List.range' 0 (es.size - 0)).filter (fun i => (es[i]?.map (·.hash)) == some (rowHash P w r)) := by rw [List.range_eq_range', Nat.sub_zero]
  have two : ∀ x t, ¬ (u = .str x t) := nostr
  have strD : ∀ (a b : Sem (Option Nat)), (match u with | .str x _ => a | _ => b) = b := fun a b => by
    cases r with
    | none =>
      have e : u = .none := hk
      subst e
      rfl
    | some r =>
      obtain ⟨a, rfl, _⟩ := hk
      rfl
  have loopstep : ∀ (x : Nat) (y : Row × Value × Value) (Q : Bool → Shared → Prop), xs[x]? = some y → Q (decide (y.1 = r)) s → wpAny (model P w) A (eqBool y.2.1 u) Q E s := fun x y Q hy q => by
    obtain ⟨h1, h2⟩ := hx y (List.mem_of_getElem? hy)
    exact rk_eq hu h1 hk h2 hs q
  have hany : u.isRef = true → ¬ (es.any fun e => e.key == u && e.hash != rowHash P w r) = true := fun _ => by
    rw [← Array.any_toList, List.any_eq_true]
    rintro ⟨e, hin, hc⟩
    obtain ⟨x, h1, rfl⟩ := mem e (Array.mem_toList_iff.mp hin)
    simp only [entR, Bool.and_eq_true, beq_iff_eq, bne_iff_ne, ne_eq] at hc
    have q := (hx x h1).1
    rw [hc.1] at q
    exact hc.2 (by rw [rk_one q hk])
  have hst : ∀ v ∈ (placesWithHash es.size (fun i => es[i]?.map (·.hash)) (rowHash P w r)).filterMap (fun i => es[i]?.map (·.key)), ∃ q, RKey P w s.heap q v := by
    intro v hv
    obtain ⟨i, _, hi⟩ := List.mem_filterMap.mp hv
    cases hei : es[i]? with
    | none => rw [hei] at hi; cases hi
    | some e =>
      rw [hei] at hi
      obtain rfl : e.key = v := by simpa using hi
      obtain ⟨x, h1, rfl⟩ := mem e (Array.mem_of_getElem? hei)
      exact ⟨x.1, (hx x h1).1⟩
  have tell : ∀ {Q : Bool → Shared → Prop} (stored : List Value), (∀ v ∈ stored, ∃ q, RKey P w s.heap q v) → Q false s → wpAny (model P w) A (tableMayTell u stored) Q E s := fun {Q} stored hst h => by
    unfold tableMayTell
    split
    · exact wpAny_pure h
    · refine wpAny_bind (rk_quiet hk ?_)
      simp only [Bool.not_true, Bool.false_eq_true, if_false]
      refine wpAny_bind ?_
      refine wpAny_forIn_list _ (fun rest r s' => s' = s ∧ r = (none, ()) ∧ ∀ v ∈ rest, ∃ q, RKey P w s.heap q v) _ ?_ ?_ _ _ ⟨rfl, rfl, hst⟩
      · rintro x rest r s' ⟨rfl, rfl, hr⟩
        obtain ⟨q, hb⟩ := hr x List.mem_cons_self
        refine wpAny_bind (rk_quiet hb ?_)
        simp only [Bool.not_true, Bool.false_eq_true, if_false]
        exact wpAny_pure ⟨rfl, rfl, fun v hv => hr v (List.mem_cons_of_mem _ hv)⟩
      · rintro r s' ⟨rfl, rfl, _⟩
        exact wpAny_pure h
  generalize hpl : placesWithHash es.size (fun i => es[i]?.map (·.hash)) (rowHash P w r) = places
  have hpl2 : places = (List.range' 0 (es.size - 0)).filter (fun i => (es[i]?.map (·.hash)) == some (rowHash P w r)) := by rw [← hpl, ← start]; rfl
  rw [hpl] at hst
  have plain : wpAny (model P w) A (dictWalkPlain d u (rowHash P w r) es places) Q E s := by
    unfold dictWalkPlain
    refine wpAny_bind ?_
    refine wpAny_forIn_list _
      (fun rest b s' => s' = s ∧ ∃ i, b = (none, ()) ∧ rest = (List.range' i (es.size - i)).filter (fun i => (es[i]?.map (·.hash)) == some (rowHash P w r)) ∧ i ≤ es.size ∧ findR (xs.take i) r = none) _ ?_ ?_ _ _
      ⟨rfl, 0, rfl, hpl2, Nat.zero_le _, rfl⟩
    · rintro x rest b s' ⟨rfl, i, rfl, hr, hi, hf⟩
      obtain ⟨y, hy, hlt, hex, hh, hfx, hrest⟩ := turn rest i x hr hi
      rw [hex]
      dsimp only [entR]
      rw [if_pos hh]
      refine wpAny_bind (wpAny_dictEpoch ho hd (wpAny_bind (loopstep x y _ hy (wpAny_bind (wpAny_dictEpoch ho hd ?_)))))
      show wpAny _ _ (if (ep != ep) = true then _ else _) _ E _
      rw [if_neg (by simp)]
      rw [hf] at hfx
      by_cases hkk : y.1 = r
      · rw [decide_eq_true hkk]
        rw [last x y hy hkk hfx] at h
        first | rw [if_pos rfl] | skip
        refine wpAny_bind (wpAny_rule ?_)
        exact wpAny_pure (wpAny_pure h)
      · rw [decide_eq_false hkk]
        simp only [Bool.false_eq_true, if_false]
        refine wpAny_bind (wpAny_rule ?_)
        refine wpAny_pure ⟨rfl, x + 1, rfl, hrest, hlt, ?_⟩
        rw [findR_step hy, hfx, if_neg hkk]; rfl
    · rintro b s' ⟨rfl, i, rfl, hr, hi, hf⟩
      rw [stop i hr hi, hf] at h
      exact wpAny_pure h
  unfold dictFind
  refine wpAny_holding ?_
  refine wpAny_bind (wpAny_dictEntries ho hd ?_)
  dsimp only
  have isref : u = .none ∨ ∃ a, u = .ref a := by
    cases r with
    | none => exact .inl hk
    | some r =>
      obtain ⟨a, q, _⟩ := hk
      exact .inr ⟨a, q⟩
  obtain rfl | ⟨a, rfl⟩ := isref
  · dsimp only
    rw [hpl]
    by_cases hall : ((Value.none :: places.filterMap (fun i => es[i]?.map (·.key))).all carriedByValue) = true
    · rw [if_pos hall]
      exact plain
    · rw [if_neg hall]
      by_cases hone : (places.filterMap (fun i => es[i]?.map (·.key)) == [Value.none]) = true <;>
      (first | rw [if_pos hone] | rw [if_neg hone]) <;> (first | refine wpAny_bind (wpAny_pure ?_) | refine wpAny_bind (tell _ hst ?_)) <;> (
        rw [if_neg (by simp)]
        refine wpAny_bind ?_
        refine wpAny_forIn_list _
          (fun rest b s' => s' = s ∧ ∃ i, b = (none, findR (xs.take i) r) ∧ rest = (List.range' i (es.size - i)).filter (fun i => (es[i]?.map (·.hash)) == some (rowHash P w r)) ∧ i ≤ es.size) _ ?_ ?_ _ _
          ⟨rfl, 0, rfl, hpl2, Nat.zero_le _⟩
        · rintro x rest b s' ⟨rfl, i, rfl, hr, hi⟩
          obtain ⟨y, hy, hlt, hex, hh, hfx, hrest⟩ := turn rest i x hr hi
          rw [hex]
          dsimp only [entR]
          rw [if_pos hh]
          refine wpAny_bind (wpAny_dictEpoch ho hd (wpAny_bind (loopstep x y _ hy (wpAny_bind (wpAny_dictEpoch ho hd ?_)))))
          show wpAny _ _ (if (ep != ep) = true then _ else _) _ E _
          rw [if_neg (by simp)]
          by_cases hkk : y.1 = r
          · rw [decide_eq_true hkk]
            first | rw [if_pos rfl] | skip
            have hno : findR (xs.take i) r = none := by
              cases hz : findR (xs.take i) r with
              | none => rfl
              | some j => exact absurd hkk (findR_late hn (hfx.trans hz) hy)
            have hlast := last x y hy hkk (hfx.trans hno)
            rw [hno]
            simp only [Option.isSome_none, Bool.false_eq_true, if_false]
            refine wpAny_bind (wpAny_rule ?_)
            split
            · rw [hlast] at h
              exact wpAny_pure (wpAny_pure h)
            · refine wpAny_pure ⟨rfl, x + 1, ?_, hrest, hlt⟩
              rw [findR_step hy, hfx, hno, if_pos hkk]; rfl
          · rw [decide_eq_false hkk]
            simp only [Bool.false_eq_true, if_false]
            refine wpAny_bind (wpAny_rule ?_)
            first | rw [if_neg (by simp)] | skip
            have hstay : findR (xs.take (x + 1)) r = findR (xs.take i) r := by rw [findR_step hy, if_neg hkk, Option.or_none, hfx]
            first
              | exact wpAny_pure ⟨rfl, x + 1, by rw [hstay], hrest, hlt⟩
              | exact wpAny_bind (wpAny_pure (wpAny_pure ⟨rfl, x + 1, by rw [hstay], hrest, hlt⟩))
        · rintro b s' ⟨rfl, i, rfl, hr, hi⟩
          rw [stop i hr hi] at h
          exact wpAny_pure h)
  · dsimp only
    rw [hpl]
    rw [if_neg (show ¬ ((Value.ref a :: places.filterMap (fun i => es[i]?.map (·.key))).all carriedByValue) = true by simp [carriedByValue])]
    rw [if_neg (hany rfl)]
    by_cases hone : (places.filterMap (fun i => es[i]?.map (·.key)) == [Value.ref a]) = true <;>
    (first | rw [if_pos hone] | rw [if_neg hone]) <;> (first | refine wpAny_bind (wpAny_pure ?_) | refine wpAny_bind (tell _ hst ?_)) <;> (
      rw [if_neg (by simp)]
      refine wpAny_bind ?_
      refine wpAny_forIn_list _
        (fun rest b s' => s' = s ∧ ∃ i, b = (none, findR (xs.take i) r) ∧ rest = (List.range' i (es.size - i)).filter (fun i => (es[i]?.map (·.hash)) == some (rowHash P w r)) ∧ i ≤ es.size) _ ?_ ?_ _ _
        ⟨rfl, 0, rfl, hpl2, Nat.zero_le _⟩
      · rintro x rest b s' ⟨rfl, i, rfl, hr, hi⟩
        obtain ⟨y, hy, hlt, hex, hh, hfx, hrest⟩ := turn rest i x hr hi
        rw [hex]
        dsimp only [entR]
        rw [if_pos hh]
        refine wpAny_bind (wpAny_dictEpoch ho hd (wpAny_bind (loopstep x y _ hy (wpAny_bind (wpAny_dictEpoch ho hd ?_)))))
        show wpAny _ _ (if (ep != ep) = true then _ else _) _ E _
        rw [if_neg (by simp)]
        by_cases hkk : y.1 = r
        · rw [decide_eq_true hkk]
          first | rw [if_pos rfl] | skip
          have hno : findR (xs.take i) r = none := by
            cases hz : findR (xs.take i) r with
            | none => rfl
            | some j => exact absurd hkk (findR_late hn (hfx.trans hz) hy)
          have hlast := last x y hy hkk (hfx.trans hno)
          rw [hno]
          simp only [Option.isSome_none, Bool.false_eq_true, if_false]
          refine wpAny_bind (wpAny_rule ?_)
          split
          · rw [hlast] at h
            exact wpAny_pure (wpAny_pure h)
          · refine wpAny_pure ⟨rfl, x + 1, ?_, hrest, hlt⟩
            rw [findR_step hy, hfx, hno, if_pos hkk]; rfl
        · rw [decide_eq_false hkk]
          simp only [Bool.false_eq_true, if_false]
          refine wpAny_bind (wpAny_rule ?_)
          first | rw [if_neg (by simp)] | skip
          have hstay : findR (xs.take (x + 1)) r = findR (xs.take i) r := by rw [findR_step hy, if_neg hkk, Option.or_none, hfx]
          first
            | exact wpAny_pure ⟨rfl, x + 1, by rw [hstay], hrest, hlt⟩
            | exact wpAny_bind (wpAny_pure (wpAny_pure ⟨rfl, x + 1, by rw [hstay], hrest, hlt⟩))
      · rintro b s' ⟨rfl, i, rfl, hr, hi⟩
        rw [stop i hr hi] at h
        exact wpAny_pure h)
end
end Fq

set_option Elab.async false
set_option linter.all false
set_option maxRecDepth 100000
set_option maxHeartbeats 4000000
/-! Dicts keyed by rows: get, [], []=, the walk over the keys. -/
namespace Fq
open PySem PySem.Spec PyProof.Rows L2
section
variable {P : Program} {w : World} {A : Around} {E : Value → Shared → Prop} {s : Shared}
/-- an entry of the abstract table and one of the raw table -/
def EntRel (p : Row × V × Int) (q : Row × Value × Value) : Prop := p.1 = q.1 ∧ RelV p.2.1 q.2.1 ∧ RelV (.int p.2.2) q.2.2
def RowD (P : Program) (w : World) (d : Addr) (xs : List (Row × V × Int)) : HO := .ext fun h => (d == sysModules) = false ∧ ∃ o es ep ys, h.get? d = some o ∧ o.ExactDict ∧ o.data = .dict es ep ∧ es.toList = ys.map (entR P w) ∧ Paired EntRel xs ys
/-- the table at d, its keys in their places -/
structure DR (P : Program) (w : World) (H : Hp) (d : Addr) (xs : List (Row × V × Int)) : Prop where
  at_ : Rd H d (RowD P w d xs)
  keys : ∀ x ∈ xs, RowV H x.2.1 x.1 ∧ Signs x.1
  nodup : (xs.map (·.1)).Nodup
  len : xs.length ≤ 1000
theorem paired_map_eq {xs : List (Row × V × Int)} {ys : List (Row × Value × Value)} (h : Paired EntRel xs ys) : xs.map (·.1) = ys.map (·.1) := by
  induction h with
  | nil => rfl
  | cons r _ ih => rw [List.map_cons, List.map_cons, ih, r.1]
theorem paired_mem {xs : List (Row × V × Int)} {ys : List (Row × Value × Value)} (h : Paired EntRel xs ys) : ∀ y ∈ ys, ∃ x ∈ xs, EntRel x y := by
  induction h with
  | nil => intro y hy; cases hy
  | cons r _ ih =>
    intro y hy
    rcases List.mem_cons.mp hy with rfl | hy
    · exact ⟨_, List.mem_cons_self, r⟩
    · obtain ⟨x, h1, h2⟩ := ih y hy
      exact ⟨x, List.mem_cons_of_mem _ h1, h2⟩
theorem paired_put {r : Row} {c : Int} {z : Value} {xs : List (Row × V × Int)} {ys : List (Row × Value × Value)} (h : Paired EntRel xs ys) (rz : RelV (.int c) z) :
    Paired EntRel (xs.map (fun x => if x.1 = r then (x.1, x.2.1, c) else x)) (ys.map fun y => if y.1 = r then (y.1, y.2.1, z) else y) := by
  induction h with
  | nil => exact .nil
  | @cons p q' ps qs e t ih =>
    rw [List.map_cons, List.map_cons]
    refine .cons ?_ ih
    by_cases k : p.1 = r
    · rw [if_pos k, if_pos (e.1.symm.trans k)]
      exact ⟨e.1, e.2.1, rz⟩
    · rw [if_neg k, if_neg (fun z => k (e.1.trans z))]
      exact e
def countAt (xs : List (Row × V × Int)) (r : Row) : Option Int := (xs.find? fun x => decide (x.1 = r)).map (·.2.2)
theorem count_rel {xs : List (Row × V × Int)} {ys : List (Row × Value × Value)} {r : Row} (h : Paired EntRel xs ys) :
    match findR ys r with
    | none => countAt xs r = none
    | some j => ∃ y c, ys[j]? = some y ∧ countAt xs r = some c ∧ RelV (.int c) y.2.2 := by
  induction h with
  | nil => rfl
  | @cons p q ps qs e t ih =>
    unfold findR countAt at *
    rw [List.findIdx?_cons, List.find?_cons]
    by_cases z : q.1 = r
    · rw [if_pos (decide_eq_true z), decide_eq_true (e.1.trans z)]
      exact ⟨q, p.2.2, rfl, rfl, e.2.2⟩
    · rw [if_neg (by simpa using z), decide_eq_false (fun x => z (e.1.symm.trans x))]
      cases k : qs.findIdx? (fun x => decide (x.1 = r)) with
      | none =>
        rw [k] at ih
        exact ih
      | some j =>
        rw [k] at ih
        obtain ⟨y, c, h1, h2, h3⟩ := ih
        exact ⟨y, c, by simpa using h1, h2, h3⟩
end
section
variable {X : Cx} {pins : List (Addr × Obj)} {σ : L2.St} {H : Hp} {s : Shared} {d : Addr} {A : Around} {E : Value → Shared → Prop} {xs : List (Row × V × Int)}
theorem rk_of {r : Row} {v : V} {u : Value} (I : Inv X pins σ H s) (h : RowV H v r) (ru : RelV v u) : RKey X.prog X.w s.heap r u := by
  cases r with
  | none =>
    have e : v = .non := h
    subst e
    exact ru
  | some r =>
    obtain ⟨k, z⟩ := r
    have hv := h
    obtain ⟨a, rfl, ha⟩ := h
    obtain rfl : u = Value.ref a := ru
    obtain ⟨as, q⟩ := Dp.reads I _ _ _ (dp_row (K := X.K) hv) (show RelV (.ref a) (.ref a) from rfl)
    exact ⟨a, rfl, key_of (ks := [.inl (k : Int), .inr (SX.S z)]) I.hok ha, as, q⟩
theorem dr_raw (I : Inv X pins σ H s) (h : DR X.prog X.w H d xs) : (d == sysModules) = false ∧ ∃ o es ep ys, s.heap.get? d = some o ∧ o.ExactDict ∧ o.data = .dict es ep ∧ es.toList = ys.map (entR X.prog X.w) ∧ Paired EntRel xs ys ∧
    (∀ y ∈ ys, RKey X.prog X.w s.heap y.1 y.2.1 ∧ Signs y.1) ∧ (ys.map (·.1)).Nodup ∧ es.size ≤ 1000 := by
  obtain ⟨⟨hd, o, es, ep, ys, h1, h2, h3, h4, h5⟩, _, _⟩ := h.at_.ok I.hok
  refine ⟨hd, o, es, ep, ys, h1, h2, h3, h4, h5, fun y hy => ?_, by rw [← paired_map_eq h5]; exact h.nodup, ?_⟩
  · obtain ⟨x, hx, e1, e2, e3⟩ := paired_mem h5 y hy
    obtain ⟨k1, k2⟩ := h.keys x hx
    rw [e1] at k1 k2
    exact ⟨rk_of I k1 e2, k2⟩
  · have := congrArg List.length h4
    rw [List.length_map, Array.length_toList] at this
    have := Paired.length h5
    have := h.len
    omega
/-- the raw lookup -/
theorem dr_get {r : Row} {v : V} {u : Value} {Q : Option Value → Shared → Prop} (hu : A.units + 8 < cLine) (I : Inv X pins σ H s) (h : DR X.prog X.w H d xs) (hv : RowV H v r) (ru : RelV v u) (hs : Signs r)
    (q0 : countAt xs r = none → ∀ tk, Q none { s with toks := tk }) (q1 : ∀ c, countAt xs r = some c → ∀ z tk, RelV (.int c) z → Q (some z) { s with toks := tk }) : wpAny (model X.prog X.w) A (dictGet d u) Q E s := by
  obtain ⟨hd, o, es, ep, ys, h1, h2, h3, h4, h5, h6, h7, h8⟩ := dr_raw I h
  have hk := rk_of I hv ru
  unfold dictGet
  refine wpAny_holding ?_
  refine wpAny_bind (rk_hash (by omega) hk fun tk => wpAny_bind (rk_find (s := { s with toks := tk }) hu hk hs h1 h3 h4 h6 h7 ?_))
  have cr := count_rel (r := r) h5
  cases hf : findR ys r with
  | none =>
    rw [hf] at cr
    exact wpAny_pure (q0 cr tk)
  | some j =>
    rw [hf] at cr
    obtain ⟨y, c, e1, e2, e3⟩ := cr
    have ent : es[j]? = some (entR X.prog X.w y) := by rw [← Array.getElem?_toList, h4, List.getElem?_map, e1]; rfl
    refine wpAny_bind (wpAny_dictEntries (s := { s with toks := tk }) h1 h3 ?_)
    rw [ent]
    exact wpAny_pure (q1 c e2 _ tk e3)
/-- d.get(y, x) -/
theorem dr_get2 {r : Row} {v x : V} {u z : Value} {Q : Value → Shared → Prop} (hu : A.units + 9 < cLine) (I : Inv X pins σ H s) (h : DR X.prog X.w H d xs) (hv : RowV H v r) (ru : RelV v u) (hs : Signs r) (rz : RelV x z)
    (q : ∀ w' s', Inv X pins σ H s' → RelV (match countAt xs r with | some c => .int c | none => x) w' → Q w' s') : wpAny (model X.prog X.w) A (call (.builtin "dict.get") [.ref d, u, z]) Q E s := by
  have rr := dr_raw I h
  obtain ⟨hd, o, es, ep, ys, h1, h2, h3, _⟩ := rr
  have hT : s.TypeIs (.ref d) "dict" := ⟨o, h1, h2.1⟩
  refine call_meetsIn PySem.F.slot_dict_get hT PySem.F.entry_dict_get (PySem.F.args_dict_get_3 _ _ _) (MeetsIn.of_wp (S := fun A R s' => s' = s ∧ A.units + 9 < cLine ∧ (∀ w' s', Inv X pins σ H s' → RelV (match countAt xs r with | some c => .int c | none => x) w' → R (.ok (.ret w')) s')) fun A R s' ⟨es, hu, q⟩ => ?_) ⟨rfl, hu, q⟩
  · subst es
    show wpAny _ _ (dictGet d u >>= _) _ _ _
    refine wpAny_bind (dr_get (by simpa using hu) I h hv ru hs (fun e tk => ?_) fun c e zz tk rzz => ?_)
    · rw [e] at q
      show wpAny _ _ (Builtin.Dict.missed d u >>= _) _ _ _
      exact wpAny_bind (wpAny_missed_other hd (wpAny_pure ⟨z, rfl, q _ _ (I.tok _) rz⟩))
    · rw [e] at q
      exact wpAny_pure ⟨zz, rfl, q _ _ (I.tok _) rzz⟩
/-- d[y], there -/
theorem dr_item {r : Row} {v : V} {u : Value} {c : Int} {Q : Value → Shared → Prop} (hu : A.units + 9 < cLine) (I : Inv X pins σ H s) (h : DR X.prog X.w H d xs) (hv : RowV H v r) (ru : RelV v u) (hs : Signs r)
    (e : countAt xs r = some c) (q : ∀ w' s', Inv X pins σ H s' → RelV (.int c) w' → Q w' s') : wpAny (model X.prog X.w) A (getItem (.ref d) u) Q E s := by
  obtain ⟨hd, o, es, ep, ys, h1, h2, h3, _⟩ := dr_raw I h
  have hT : s.TypeIs (.ref d) "dict" := ⟨o, h1, h2.1⟩
  unfold getItem
  refine wpAny_holding ?_
  refine wpAny_bind (wpAny_sequenceKey hT (by decide) ?_)
  refine wpAny_bind (wpAny_callSpecial?_slot (name := Str.ofString "__getitem__") hT slot_dict_getitem
    (wpAny_call_entry slot_dict_getitem hT entry_dict_getitem ?_ (args_dict_getitem _ _)))
  show wpAny _ _ (dictGet d u >>= _) _ _ s
  refine wpAny_bind (dr_get (by simpa using hu) I h hv ru hs (fun e' => absurd (e'.symm.trans e) (by simp)) fun c' e' zz tk rzz => ?_)
  cases e.symm.trans e'
  exact wpAny_pure ⟨zz, rfl, wpAny_pure (q _ _ (I.tok _) rzz)⟩
/-- the table behind d[y] = c -/
def putR (xs : List (Row × V × Int)) (r : Row) (v : V) (c : Int) : List (Row × V × Int) :=
  if (countAt xs r).isSome then xs.map (fun x => if x.1 = r then (x.1, x.2.1, c) else x) else xs ++ [(r, v, c)]
theorem dr_set {r : Row} {v : V} {u z : Value} {c : Int} {Q : Unit → Shared → Prop} (hu : A.units + 9 < cLine) (I : Inv X pins σ H s) (h : DR X.prog X.w H d xs) (hw : H d = some (RowD X.prog X.w d xs)) (hv : RowV H v r) (ru : RelV v u) (hs : Signs r) (hl : xs.length < 1000) (rz : RelV (.int c) z)
    (q : ∀ s', Inv X pins σ (upd H d (RowD X.prog X.w d (putR xs r v c))) s' → Q () s') : wpAny (model X.prog X.w) A (setItem (.ref d) u z) Q E s := by
  obtain ⟨hd, o, es, ep, ys, h1, h2, h3, h4, h5, h6, h7, h8⟩ := dr_raw I h
  have hk := rk_of I hv ru
  have hT : s.TypeIs (.ref d) "dict" := ⟨o, h1, h2.1⟩
  unfold setItem
  refine wpAny_holding ?_
  refine wpAny_bind (wpAny_sequenceKey hT (by decide) ?_)
  refine wpAny_bind (wpAny_callSpecial?_slot (name := Str.ofString "__setitem__") hT slot_dict_setitem
    (wpAny_call_entry slot_dict_setitem hT entry_dict_setitem ?_ (args_dict_setitem _ _ _)))
  show wpAny _ _ (Builtin.Dict.notOrdered "__setitem__" ⟨[.ref d, u, z], []⟩ >>= _) _ _ s
  refine wpAny_bind (wpAny_notOrdered_dict hT ?_)
  show wpAny _ _ (dictSet d u z >>= _) _ _ s
  have hu2 : A.in1.units + 8 < cLine := by simpa using hu
  refine wpAny_bind ?_
  unfold dictSet
  refine wpAny_holding ?_
  refine wpAny_bind (rk_hash (by omega) hk fun tk => ?_)
  unfold dictSetHashed
  refine wpAny_holding ?_
  refine wpAny_bind (rk_find (s := { s with toks := tk }) hu2 hk hs h1 h3 h4 h6 h7 ?_)
  have cr := count_rel (r := r) h5
  have fin : ∀ (h' : Heap) (o' : Obj) (es' : Array DictEntry) (ep' : Nat) (ys' : List (Row × Value × Value)), Heap.SameBut d s.heap h' → h'.get? d = some o' → o'.ExactDict → o'.data = .dict es' ep' → es'.toList = ys'.map (entR X.prog X.w) → Paired EntRel (putR xs r v c) ys' →
      Q () { s with heap := h', toks := tk } := fun h' o' es' ep' ys' sb g1 g2 g3 g4 g5 => by
    refine q _ (d_write I (by rw [hw]; exact True.intro) sb ⟨o', g1⟩ ⟨⟨hd, o', es', ep', ys', g1, g2, g3, g4, g5⟩, ⟨o', g1⟩, ?_⟩)
    rintro k1 k2 ⟨hd, o, es, ep, ys, z1, z2⟩ keep
    exact ⟨hd, o, es, ep, ys, keep _ z1, z2⟩
  cases hf : findR ys r with
  | none =>
    rw [hf] at cr
    refine wpAny_bind (wpAny_rule (wpAny_updateDictKeys (hz := by rw [sizeLine_eq]; omega) (s := { s with toks := tk }) h1 h3 ?_))
    refine wpAny_pure ⟨.none, rfl, wpAny_pure (fin _ _ _ (ep + 1) (ys ++ [(r, u, z)]) (Heap.SameBut.update ..) (Heap.get?_update_self _ h1 (Obj.isFreed_of_dict (Obj.data_mapDictKeys h3 _))) (h2.mapDictKeys _) (Obj.data_mapDictKeys h3 _) ?_ ?_)⟩
    · rw [Array.toList_push, h4, List.map_append]; rfl
    · unfold putR
      rw [show (countAt xs r).isSome = false by rw [cr]; rfl, if_neg (by simp)]
      exact Paired.snoc h5 ⟨rfl, ru, rz⟩
  | some j =>
    rw [hf] at cr
    obtain ⟨y, c0, e1, e2, e3⟩ := cr
    refine wpAny_bind (wpAny_rule (wpAny_bind (wpAny_updateDict (s := { s with toks := tk }) h1 h3 (wpAny_point ?_))))
    refine wpAny_pure ⟨.none, rfl, wpAny_pure (fin _ _ _ ep (ys.map fun y => if y.1 = r then (y.1, y.2.1, z) else y) (Heap.SameBut.update ..) (Heap.get?_update_self _ h1 (Obj.isFreed_of_dict (Obj.data_mapDict h3 _))) (h2.mapDict _) (Obj.data_mapDict h3 _) ?_ ?_)⟩
    · apply List.ext_getElem?
      intro i
      rw [Array.getElem?_toList, Array.getElem?_modify, List.map_map, List.getElem?_map, ← Array.getElem?_toList, h4, List.getElem?_map]
      obtain ⟨hj, hj2, _⟩ := List.findIdx?_eq_some_iff_getElem.mp hf
      have hj2 := of_decide_eq_true hj2
      have ej : ys[j] = y := by rw [List.getElem?_eq_getElem hj] at e1; exact Option.some.inj e1
      by_cases z0 : j = i
      · rw [if_pos z0]
        subst z0
        rw [e1]
        rw [ej] at hj2
        show some _ = some _
        simp [Function.comp, entR, hj2]
      · rw [if_neg z0]
        cases hyi : ys[i]? with
        | none => rfl
        | some y' =>
          have : y'.1 ≠ r := fun k => by
            have g1 : (ys.map (·.1))[j]? = some r := by rw [List.getElem?_map, e1, ← ej, Option.map_some, hj2]
            have g2 : (ys.map (·.1))[i]? = some r := by rw [List.getElem?_map, hyi, Option.map_some, k]
            exact z0 ((List.getElem?_inj (by rw [List.length_map]; exact hj) h7).mp (g1.trans g2.symm))
          simp [Function.comp, this]
    · unfold putR
      rw [show (countAt xs r).isSome = true by rw [e2]; rfl, if_pos rfl]
      exact paired_put h5 rz
theorem dr_put {P : Program} {w : World} {r : Row} {v : V} {c : Int} (h : DR P w H d xs) (hw : H d = some (RowD P w d xs)) (hv : RowV H v r) (hs : Signs r) (hl : xs.length < 1000) : DR P w (upd H d (RowD P w d (putR xs r v c))) d (putR xs r v c) where
  at_ := .inl upd_same
  keys := by
    have up : ∀ {v1 : V} {q : Row}, RowV H v1 q → RowV (upd H d (RowD P w d (putR xs r v c))) v1 q := fun {v1 q} k => by
      cases q with
      | none => exact k
      | some q =>
        obtain ⟨a, e, ha⟩ := k
        exact ⟨a, e, by rw [upd_ne (ne_of ha hw fun z => nomatch z)]; exact ha⟩
    intro x hx
    unfold putR at hx
    by_cases hn : (countAt xs r).isSome = true
    · rw [if_pos hn] at hx
      obtain ⟨y, hy, rfl⟩ := List.mem_map.mp hx
      obtain ⟨k1, k2⟩ := h.keys y hy
      by_cases e : y.1 = r
      · rw [if_pos e]; exact ⟨up k1, k2⟩
      · rw [if_neg e]; exact ⟨up k1, k2⟩
    · rw [if_neg hn] at hx
      rcases List.mem_append.mp hx with hx | hx
      · obtain ⟨k1, k2⟩ := h.keys x hx
        exact ⟨up k1, k2⟩
      · cases List.mem_singleton.mp hx
        exact ⟨up hv, hs⟩
  nodup := by
    unfold putR
    split
    · rw [List.map_map]
      have e : ((fun x : Row × V × Int => x.1) ∘ fun x : Row × V × Int => if x.1 = r then (x.1, x.2.1, c) else x) = fun x => x.1 := by
        funext x
        show (if x.1 = r then (x.1, x.2.1, c) else x).1 = x.1
        split <;> rfl
      rw [e]
      exact h.nodup
    · rename_i hn
      rw [List.map_append, List.nodup_append]
      refine ⟨h.nodup, by simp, ?_⟩
      intro a ha b hb e
      rw [List.map_cons, List.map_nil, List.mem_singleton] at hb
      obtain ⟨x, hx, rfl⟩ := List.mem_map.mp ha
      apply hn
      unfold countAt
      rw [Option.isSome_map, List.find?_isSome]
      exact ⟨x, hx, decide_eq_true (e.trans hb)⟩
  len := by
    unfold putR
    split
    · rw [List.length_map]; omega
    · rw [List.length_append, List.length_singleton]; omega
end
/-- {} for rows -/
def tRNew (P : Program) (w : World) : TE := fun _ H Q => ∀ p, H p = none → Q (.ref p) (upd H p (RowD P w p []))
/-- d[y], d.get(y, x) -/
def tRGet (P : Program) (w : World) (td ty : TE) : TE := fun σ H Q => td σ H fun x H1 => ty σ H1 fun y H2 => ∃ d xs r c, x = .ref d ∧ DR P w H2 d xs ∧ RowV H2 y r ∧ Signs r ∧ countAt xs r = some c ∧ Q (.int c) H2
def tRGet2 (P : Program) (w : World) (td ty tx : TE) : TE := fun σ H Q => td σ H fun x H1 => ∃ d, x = .ref d ∧ (∃ xs, DR P w H1 d xs) ∧ ty σ H1 fun y H2 => tx σ H2 fun z H3 => ∃ xs r, DR P w H3 d xs ∧ RowV H3 y r ∧ Signs r ∧ Q (match countAt xs r with | some c => .int c | none => z) H3
/-- d[y] = v -/
def sRPut (P : Program) (w : World) (td ty tv : TE) : TS := fun D σ H => tv σ H fun v H1 => td σ H1 fun x H2 => ty σ H2 fun y H3 => ∃ d xs r c, x = .ref d ∧ v = .int c ∧ DR P w H3 d xs ∧ H3 d = some (RowD P w d xs) ∧ RowV H3 y r ∧ Signs r ∧ xs.length < 1000 ∧ D.nx σ (upd H3 d (RowD P w d (putR xs r y c)))
section
variable {X : Cx} {o i e f value : Expr} {pos pos' apos cpos : Pos} {td ty tv tx : TE}
theorem pe_rnew : PE X (.Dict [] [] pos) (tRNew X.prog X.w) := ⟨fun pins s σ H Q I h => by
  refine wpAny_Dict_empty ⟨.ref s.heap.objs.size, _, I.laid (a := s.heap.objs.size) (o := RowD X.prog X.w s.heap.objs.size []) (t' := s.toks) (fun _ _ q => Heap.get?_push_of_some _ q) (Nat.le_refl _) ⟨⟨beq_eq_false_iff_ne.mpr (Ne.symm (Nat.ne_of_lt I.big)), _, #[], 0, [], Heap.get?_push_size _ rfl, ⟨rfl, rfl, rfl⟩, rfl, rfl, .nil⟩, ⟨_, Heap.get?_push_size _ rfl⟩, ?_⟩, rfl, h _ (I.hok.fresh (Nat.le_refl _))⟩
  rintro k1 k2 ⟨hd, o, es, ep, ys, z1, z2⟩ keep
  exact ⟨hd, o, es, ep, ys, keep _ z1, z2⟩⟩
theorem pe_rget (hu : X.A.units + 9 < cLine) (ho : PE X o td) (hi : PE X i ty) (hs : NoSl i) : PE X (.Subscript o i pos) (tRGet X.prog X.w td ty) := by
  refine ⟨fun pins s σ H Q I h => ?_⟩
  refine subD_of PySem.F.slot_dict_getitem.lookup hs (thn (ho.run pins s σ H _ I h) fun u s1 ⟨x, H1, I1, rx, q1⟩ => thn (hi.run pins s1 σ H1 _ I1 q1) fun iv s2 ⟨y, H2, I2, ry, a, xs, r, c, ex, g, g2, g3, g4, q2⟩ => ?_)
  subst ex
  obtain rfl : u = Value.ref a := rx
  obtain ⟨hd, o, es, ep, ys, h1, h2, h3, _⟩ := dr_raw I2 g
  exact ⟨⟨o, h1, h2.1⟩, dr_item hu I2 g g2 ry g3 g4 fun w' s3 I3 rw' => ⟨_, H2, I3, rw', q2⟩⟩
theorem ps_rput (hu : X.A.units + 9 < cLine) (ho : PE X o td) (hi : PE X i ty) (hv : PE X value tv) (hs : swapsWith value (some (.Subscript o i pos')) pos.line X.env = pure false) :
    PS X (.Assign [.Subscript o i pos'] value pos) (sRPut X.prog X.w td ty tv) := by
  refine ⟨fun pins s σ H D I h => ?_⟩
  refine wpAny_Assign_Subscript (thn (hv.run pins s σ H _ I h) fun r s1 ⟨v, H1, I1, rv, q1⟩ => thn (ho.run pins s1 σ H1 _ I1 q1) fun u s2 ⟨x, H2, I2, rx, q2⟩ => thn (hi.run pins s2 σ H2 _ I2 q2) fun iv s3 ⟨y, H3, I3, ry, a, xs, r, c, ex, ev, g, gw, g2, g3, g4, q3⟩ => ?_) hs
  subst ex ev
  obtain rfl : u = Value.ref a := rx
  exact dr_set hu I3 g gw g2 ry g3 g4 rv fun s4 I4 => ⟨σ, _, I4, q3⟩
theorem pe_rget2 (hu : X.A.units + 9 < cLine) (ho : PE X o td) (he : PE X e ty) (hf : PE X f tx) (m : M2 X o "get" apos e f cpos) : PE X (.Call (.Attribute o "get" apos) [e, f] [] cpos) (tRGet2 X.prog X.w td ty tx) := by
  refine ⟨fun pins s σ H Q I h => ?_⟩
  refine wpAny_Call_method m.base m.few m.line PySem.F.plainAttrs_dict PySem.F.slot_dict_get PySem.F.type_dict_get (thn (ho.run pins s σ H _ I h) fun u s1 ⟨x, H1, I1, rx, a, ex, ⟨xs, g⟩, q1⟩ => ?_)
  subst ex
  obtain rfl : u = Value.ref a := rx
  obtain ⟨hd, o, es, ep, ys, h1, h2, h3, _⟩ := dr_raw I1 g
  refine ⟨⟨o, h1, h2.1⟩, fun b q => ?_, ?_⟩
  · cases q
    exact ⟨o, h1, h2.2.1⟩
  rw [m.trees]
  refine Calls.callWith_builtin rfl (Calls.evalArgs_plain (Calls.spliced_cons (thn (he.run pins s1 σ H1 _ I1 q1) fun iv s2 ⟨y, H2, I2, ry, q2⟩ =>
    Calls.spliced_cons (thn (hf.run pins s2 σ H2 _ I2 q2) fun fv s3 ⟨z, H3, I3, rz, xs, r, g, g2, g3, q3⟩ => Calls.spliced_nil ?_))))
  exact dr_get2 hu I3 g g2 ry g3 rz fun w' s4 I4 rw' => ⟨_, H3, I4, rw', q3⟩
end
/-! ### the walk over the keys -/
def Itrow (P : Program) (w : World) (d : Addr) (o : Obj) (xs : List (Row × V × Int)) : It :=
  ⟨fun i H => H d = some (.frz o (RowD P w d xs)) ∧ i < xs.length, fun i H x H' => H' = H ∧ ∃ p, xs[i]? = some p ∧ x = p.2.1, fun i H => H d = some (.frz o (RowD P w d xs)) ∧ xs.length ≤ i⟩
theorem paired_at {xs : List (Row × V × Int)} {ys : List (Row × Value × Value)} (h : Paired EntRel xs ys) : ∀ {i : Nat} {p : Row × V × Int}, xs[i]? = some p → ∃ q, ys[i]? = some q ∧ EntRel p q := by
  induction h with
  | nil => intro i p e; simp at e
  | @cons p q ps qs e t ih =>
    intro i x hx
    cases i with
    | zero => cases hx; exact ⟨q, rfl, e⟩
    | succ i => exact ih (by simpa using hx)
theorem frzR {X : Cx} {pins : List (Addr × Obj)} {σ : L2.St} {H : Hp} {s : Shared} {d : Addr} {o : Obj} {xs : List (Row × V × Int)} (I : Inv X pins σ H s) (h : H d = some (.frz o (RowD X.prog X.w d xs))) :
    (d == sysModules) = false ∧ s.heap.get? d = some o ∧ o.ExactDict ∧ ∃ (es : Array DictEntry) (ep : Nat), o.data = .dict es ep ∧ es.size = xs.length ∧
      ∀ (i : Nat) (p : Row × V × Int), xs[i]? = some p → ∃ (en : DictEntry), es[i]? = some en ∧ RelV p.2.1 en.key := by
  obtain ⟨hg, ⟨hd, o', es, ep, ys, h1, h2, h3, h4, h5⟩, _, _⟩ := I.hok d _ h
  rw [hg] at h1
  cases h1
  have hl : es.size = ys.length := by
    have := congrArg List.length h4
    rw [List.length_map, Array.length_toList] at this
    exact this
  have hl2 := Paired.length h5
  refine ⟨hd, hg, h2, es, ep, h3, by omega, fun i p e => ?_⟩
  obtain ⟨q, hq, r⟩ := paired_at h5 e
  exact ⟨entR X.prog X.w q, by rw [← Array.getElem?_toList, h4, List.getElem?_map, hq]; rfl, r.2.1⟩
section
variable {P : Program} {w : World} {K : PySem.W.Frag} {tg : Expr} {d : Addr} {o : Obj} {es : Array DictEntry} {ep : Nat}
theorem turn_keysR {xs : List (Row × V × Int)} (it : Addr) (hod : o.data = .dict es ep) : Turn P w K tg (Itrow P w d o xs) [it] it (fun i h => h.IsKeyIter it d i xs.length ep) where
  mem := by simp
  obj := fun i h st b hb => by
    have e : b = it := by simpa using hb
    subst e
    obtain ⟨oi, e, c, dd⟩ := st
    exact ⟨oi, e, fun v z => by rw [dd] at z; cases z⟩
  keep := fun i h h' st k => st.at fun oi e => k it (by simp) oi e
  item := by
    intro X hP hw hK hc i pins s σ H E I hf st hg
    subst hP hw hK
    obtain ⟨hd, hi⟩ := hg
    obtain ⟨f0, f1, f2, f3, f4, f5⟩ := hf it (by simp)
    obtain ⟨hs, hgd, hx, es', ep', hdt, hsz, ent⟩ := frzR I hd
    obtain ⟨rfl, rfl⟩ := dict_ep hod hdt
    obtain ⟨p, hkv⟩ : ∃ p, xs[i]? = some p := ⟨xs[i], List.getElem?_eq_getElem hi⟩
    obtain ⟨en, hen, hkey⟩ := ent i p hkv
    refine next_key_item st hgd hdt hsz hen fun h' st' sb => ?_
    have I1 : Inv X pins σ H { s with heap := h' } := I.turned (t' := s.toks) (fun b ob hb e => (sb.2 b hb).trans e) f0 f1 f3 f4 f5
    obtain ⟨oi, e, c, dd⟩ := id st'
    exact ⟨en.key, rfl, go_of (s := { s with heap := h' }) e c dd (by decide) ⟨p.2.1, H, I1, hkey, ⟨rfl, p, hkv, rfl⟩, st', fun b hb => (hf b hb).1⟩⟩
  done := by
    intro X hP hw hK hc i pins s σ H E I hf st hg
    subst hP hw hK
    obtain ⟨hd, hi⟩ := hg
    obtain ⟨f0, f1, f2, f3, f4, f5⟩ := hf it (by simp)
    obtain ⟨hs, hgd, hx, es', ep', hdt, hsz, ent⟩ := frzR I hd
    obtain ⟨rfl, rfl⟩ := dict_ep hod hdt
    exact next_key_end (I.ok.hd hc) st hgd hdt hsz hi fun h' eb => ⟨rfl, I.turned (t' := s.toks) (fun b ob hb e => eb b ob hb e) f0 f1 f3 f4 f5⟩
  self := fun A i s Q E st h => by
    refine wpAny_pyIter_slot st.typeIs F.slot_dict_keyiterator_iter (wpAny_call_entry F.slot_dict_keyiterator_iter st.typeIs F.entry_dict_keyiterator_iter ?_ (F.args_dict_keyiterator_iter_1 _))
    show wpAny _ _ (ret (.ref it)) _ _ s
    exact wpAny_pure ⟨_, rfl, "dict_keyiterator", _, st.typeIs, F.slot_dict_keyiterator_next.lookup, h⟩
end
def iRow (P : Program) (w : World) (td : TE) : TI := fun σ H R => td σ H fun x H1 => ∃ d o xs, x = .ref d ∧ H1 d = some (.frz o (RowD P w d xs)) ∧ R (Itrow P w d o xs) H1
theorem pi_row {X : Cx} {tg e : Expr} {td : TE} (he : PE X e td) : PI X tg e (iRow X.prog X.w td) := by
  refine ⟨fun pins s σ H R I h => ?_⟩
  refine thn (he.run pins s σ H _ I h) fun u s1 ⟨x, H1, I1, rx, d, o, xs, ex, hd, q⟩ => ?_
  subst ex
  obtain rfl : u = Value.ref d := rx
  obtain ⟨hs, hgd, hx, es, ep, hdt, hsz, ent⟩ := frzR I1 hd
  refine iter_keys hs hgd hx hdt (pi_one (tk := s1.toks) I1 _ (turn_keysR _ hdt) ⟨_, Heap.get?_push_size _ rfl, rfl, ?_⟩ q)
  rw [hsz] <;> rfl
theorem walk_row {P : Program} {w : World} {d : Addr} {o : Obj} {xs : List (Row × V × Int)} : Walk (Itrow P w d o xs) xs.length (fun H => H d = some (.frz o (RowD P w d xs))) (fun i H x H' => H' = H ∧ ∃ p, xs[i]? = some p ∧ x = p.2.1) :=
  ⟨fun _ _ hi q => ⟨q, hi⟩, fun _ q => ⟨q, Nat.le_refl _⟩, fun _ _ _ _ _ _ y => y⟩
theorem count_nodup {xs : List (Row × V × Int)} (h : (xs.map (·.1)).Nodup) : ∀ p ∈ xs, countAt xs p.1 = some p.2.2 := by
  induction xs with
  | nil => intro p hp; cases hp
  | cons x xs ih =>
    intro p hp
    rw [List.map_cons, List.nodup_cons] at h
    unfold countAt
    rw [List.find?_cons]
    rcases List.mem_cons.mp hp with rfl | hp
    · rw [decide_eq_true rfl]; rfl
    · have : ¬ x.1 = p.1 := fun z => h.1 (by rw [z]; exact List.mem_map.mpr ⟨p, hp, rfl⟩)
      rw [decide_eq_false this]
      exact ih h.2 p hp
end Fq

set_option Elab.async false
set_option linter.all false
set_option maxRecDepth 100000
set_option maxHeartbeats 4000000
namespace Fq
open PySem PySem.Spec PyProof.Rows L2
open Evl (Ex Ex.refl Ex.trans Ex.new Ex.mut fresh_back)
section
variable {P : Program} {w : World} {K : PySem.W.Frag} {mg : Str → Option Value} {base : Heap}
theorem row_after_scope : FnScope ["row", "step", "capacity", "mode", "kept", "word", "length"] ["row", "step", "capacity", "mode"] (defScope s_row_after) := ⟨rfl, rfl, rfl, by decide +kernel, rfl, by decide +kernel, by decide +kernel⟩
theorem c_row_after (T : Tx K mg) : C8.Cal P w K mg base 1 "row_after" sp_row_after [] := by
  obtain ⟨fd, F⟩ := T.d_row_after
  refine cal_of F T.m_row_after (binds_nil (ps := ["row", "step", "capacity", "mode"]) F fun _ _ _ _ _ _ us hl => match us, hl with | [_, _, _, _], _ => rfl) row_after_scope (fun vs H Q E h => ?_) (fun cdv A outer s H vs Q E hr h => ?_)
  · obtain ⟨v, r, s, C, m, rfl, _⟩ := h
    rfl
  · have sc := row_after_scope
    obtain ⟨v, r, s, C, m, rfl, hv, hw, k⟩ := h
    refine ⟨_, (pss_cons (ps_if (pt_cmpR op_isN (pv 0) pe_non (nomark _))
    (pss_one (ps_ret pe_non))
    pss_nil)
    (pss_cons (ps_asg (pv 0) (pg_tup rfl (pgs_cons (pg_name (i := 4) sc.nd rfl (Or.inl rfl)) (pgs_cons (pg_name (i := 5) sc.nd rfl (Or.inl rfl)) pgs_nil))))
    (pss_cons (ps_set (i := 6) sc.nd rfl (Or.inl rfl) (pe_op op_add (pv 4) (pe_callB call_len (by rfl) T.len_ (by decide +kernel) (pa_cons (pv 5) pa_nil))))
    (pss_cons (ps_if (pt_cmpR op_eq (pv 1) (C8.pe_gc rfl T.g_TAKE) (nomark _))
    (pss_cons (ps_if (pt_cmpR op_eq (pv 6) pe_int (nomark _))
      (pss_one (ps_ret pe_non))
      pss_nil)
      (pss_one (ps_ret (pe_ifExp (pt_cmpR op_gt (pv 4) pe_int (nomark _)) (pe_tup (pa_cons (pe_op op_sub (pv 4) pe_int) (pa_cons (pv 5) pa_nil))) (pe_tup (pa_cons pe_int (pa_cons (pe_slice C8.sl_txt (pv 5) (po_some pe_int) po_none) pa_nil)))))))
    pss_nil)
    (pss_cons (ps_if (pt_cmpR op_lt (pv 6) (pv 2) (nomark _))
    (pss_one (ps_ret (pe_tup (pa_cons (pv 4) (pa_cons (pe_op op_add_str (pv 5) (pv 1)) pa_nil)))))
    pss_nil)
    (pss_cons (ps_if (pt_cmpR op_eq (pv 3) pe_str (nomark _))
    (pss_one (ps_ret (pe_ifExp (pt_cmpR op_gt (pv 4) pe_int (nomark _)) (pe_tup (pa_cons (pe_op op_sub (pv 4) pe_int) (pa_cons (pe_op op_add_str (pv 5) (pv 1)) pa_nil))) (pe_tup (pa_cons pe_int (pa_cons (pe_op op_add_str (pe_slice C8.sl_txt (pv 5) (po_some pe_int) po_none) (pv 1)) pa_nil))))))
    pss_nil)
    (pss_one (ps_ret (pe_ifExp (pt_cmpR op_eq (pv 3) pe_str (nomark _)) (pv 0) pe_non))))))))), ?_⟩
    cases r with
    | none =>
      have ev : v = .non := hv
      subst ev
      exact ⟨_, rfl, rfl, _, rfl, ifT (by decide) (k _ _ (Ex.refl _) rfl)⟩
    | some r =>
      obtain ⟨n, z⟩ := r
      obtain ⟨a, rfl, ha⟩ := hv
      have hz : z.length ≤ 1000 := hw n z rfl
      refine ⟨_, rfl, rfl, _, rfl, ifF ref_non ?_⟩
      refine ⟨_, rfl, a, _, rfl, .inl (.inl ha), rfl, _, _, rfl, _, _, rfl, rfl, ?_⟩
      refine ⟨_, rfl, _, rfl, _, _, rfl, ⟨Sle (by omega), rfl⟩, _, _, rfl, rfl, ?_⟩
      rw [Slen]
      refine ⟨_, rfl, rfl, _, rfl, ifD (fun c1 => ?_) fun c1 => ?_⟩
      · have c1 : s = 45 := V_take.mp c1
        refine ⟨_, rfl, rfl, _, rfl, ifD (fun c2 => ?_) fun c2 => ?_⟩
        · have c2 : n + z.length = 0 := by have := V_int.mp c2; omega
          exact k _ _ (Ex.refl _) (by simp [rowAfter, c1, c2]; rfl)
        · have c2 : ¬ n + z.length = 0 := fun q => c2 (V_int.mpr (by omega))
          refine ⟨_, rfl, _, _, rfl, rfl, _, rfl, ifD (fun c3 => ?_) fun c3 => ?_⟩
          · refine ⟨_, rfl, _, _, rfl, rfl, _, rfl, two_size, fun p hp => k _ _ (Ex.new hp) ?_⟩
            rw [show rowAfter (some (n, z)) s C m = some (n - 1, z) by simp only [rowAfter, if_pos c1, if_neg c2, if_pos (show n > 0 by omega)]]
            exact row_new (by omega) rfl
          · refine ⟨_, rfl, _, rfl, _, rfl, Sle (by omega), two_size, fun p hp => k _ _ (Ex.new hp) ?_⟩
            rw [show rowAfter (some (n, z)) s C m = some (0, z.drop 1) by simp only [rowAfter, if_pos c1, if_neg c2, if_neg (show ¬ n > 0 by omega)]]
            exact row_new rfl (Slice _ rfl)
      · have c1 : ¬ s = 45 := fun q => c1 (V_take.mpr q)
        refine ⟨_, rfl, _, rfl, _, _, rfl, rfl, _, rfl, ifD (fun c2 => ?_) fun c2 => ?_⟩
        · have c2 : n + z.length < C := by omega
          refine ⟨_, rfl, _, rfl, _, rfl, _, _, rfl, rfl, Sle2 (by omega) one_len, two_size, fun p hp => k _ _ (Ex.new hp) ?_⟩
          rw [show rowAfter (some (n, z)) s C m = some (n, z ++ [s]) by simp [rowAfter, c1, c2]]
          exact row_new rfl (Scat _ _)
        · have c2 : ¬ n + z.length < C := by omega
          cases m with
          | oldest =>
            refine ⟨_, rfl, rfl, _, rfl, ifT (by decide +kernel) ?_⟩
            refine ⟨_, rfl, _, _, rfl, rfl, _, rfl, ifD (fun c3 => ?_) fun c3 => ?_⟩
            · refine ⟨_, rfl, _, _, rfl, rfl, _, rfl, _, rfl, _, _, rfl, rfl, Sle2 (by omega) one_len, two_size, fun p hp => k _ _ (Ex.new hp) ?_⟩
              rw [show rowAfter (some (n, z)) s C .oldest = some (n - 1, z ++ [s]) by simp [rowAfter, c1, c2, show 0 < n by omega]]
              exact row_new (by omega) (Scat _ _)
            · refine ⟨_, rfl, _, rfl, _, rfl, Sle (by omega), _, rfl, _, _, rfl, rfl, ?_, two_size, fun p hp => k _ _ (Ex.new hp) ?_⟩
              · rw [Slice1]
                exact Sle2 (by rw [List.length_drop]; omega) one_len
              · rw [show rowAfter (some (n, z)) s C .oldest = some (0, z.drop 1 ++ [s]) by simp [rowAfter, c1, c2, show ¬ 0 < n by omega]]
                exact row_new rfl (by rw [Slice1]; exact Scat _ _)
          | newest =>
            refine ⟨_, rfl, rfl, _, rfl, ifF (by decide +kernel) ?_⟩
            refine ⟨_, rfl, rfl, _, rfl, ifT (by decide +kernel) ?_⟩
            refine ⟨_, rfl, k _ _ (Ex.refl _) ?_⟩
            rw [show rowAfter (some (n, z)) s C .newest = some (n, z) by simp [rowAfter, c1, c2]]
            exact ⟨a, rfl, ha⟩
          | strict =>
            refine ⟨_, rfl, rfl, _, rfl, ifF (by decide +kernel) ?_⟩
            refine ⟨_, rfl, rfl, _, rfl, ifF (by decide +kernel) ?_⟩
            refine k _ _ (Ex.refl _) ?_
            rw [show rowAfter (some (n, z)) s C .strict = none by simp [rowAfter, c1, c2]]
            rfl
end
end Fq

set_option Elab.async false
set_option linter.all false
set_option maxRecDepth 100000
set_option maxHeartbeats 4000000
namespace Fq
open PySem PySem.Spec PyProof.Rows L2
open Evl (Ex Ex.refl Ex.trans Ex.new Ex.mut fresh_back ex_l ex_t sq_of st_of)
section
variable {P : Program} {w : World} {K : PySem.W.Frag} {mg : Str → Option Value} {base : Heap}
theorem joined_row_scope : FnScope ["row", "rows", "kept", "word", "after"] ["row", "rows"] (defScope s_joined_row) := ⟨rfl, rfl, rfl, by decide +kernel, rfl, by decide +kernel, by decide +kernel⟩
theorem c_joined_row (T : Tx K mg)  : C8.Cal P w K mg base 1 "joined_row" sp_joined_row [] := by
  obtain ⟨fd, F⟩ := T.d_joined_row
  refine cal_of F T.m_joined_row (binds_nil (ps := ["row", "rows"]) F fun _ _ _ _ _ _ us hl => match us, hl with | [_, _], _ => rfl) joined_row_scope (fun vs H Q E h => ?_) (fun cdv A outer s H vs Q E hr h => ?_)
  · obtain ⟨v, t, r, rows, C, rfl, _⟩ := h
    rfl
  · have sc := joined_row_scope
    obtain ⟨v, t, r, rows, C, rfl, hv, ht, hr1, hr2, hC, k⟩ := h
    refine ⟨_, (pss_cons (ps_if (pt_cmpR op_isN (pv 0) pe_non (nomark _))
    (pss_one (ps_ret pe_non))
    pss_nil)
    (pss_cons (ps_asg (pv 0) (pg_tup rfl (pgs_cons (pg_name (i := 2) sc.nd rfl (Or.inl rfl)) (pgs_cons (pg_name (i := 3) sc.nd rfl (Or.inl rfl)) pgs_nil))))
    (pss_cons (ps_set (i := 4) sc.nd rfl (Or.inl rfl) (pe_ix ix_tup (pv 1) (pe_op op_add (pv 2) (pe_callB call_len (by rfl) T.len_ (by decide +kernel) (pa_cons (pv 3) pa_nil))) (fun _ _ => rfl)))
    (pss_cons (ps_if (pt_cmpR op_isN (pv 4) pe_non (nomark _))
    (pss_one (ps_ret pe_non))
    pss_nil)
    (pss_cons (ps_if (pt_cmpR op_le (pe_ix ix_tup (pv 4) pe_int (fun _ _ => rfl)) (pe_callB call_len (by rfl) T.len_ (by decide +kernel) (pa_cons (pv 3) pa_nil)) (nomark _))
    (pss_one (ps_ret (pe_tup (pa_cons pe_int (pa_cons (pe_op op_add_str (pe_slice C8.sl_txt (pv 3) (po_some (pe_op op_sub (pe_callB call_len (by rfl) T.len_ (by decide +kernel) (pa_cons (pv 3) pa_nil)) (pe_ix ix_tup (pv 4) pe_int (fun _ _ => rfl)))) po_none) (pe_ix ix_tup (pv 4) pe_int (fun _ _ => rfl))) pa_nil)))))
    pss_nil)
    (pss_one (ps_ret (pe_tup (pa_cons (pe_op op_sub (pe_ix ix_tup (pv 4) pe_int (fun _ _ => rfl)) (pe_callB call_len (by rfl) T.len_ (by decide +kernel) (pa_cons (pv 3) pa_nil))) (pa_cons (pe_op op_add_str (pv 3) (pe_ix ix_tup (pv 4) pe_int (fun _ _ => rfl))) pa_nil)))))))))), ?_⟩
    cases r with
    | none =>
      have ev : v = .non := hv
      subst ev
      exact ⟨_, rfl, rfl, _, rfl, ifT (by decide) (k _ _ (Ex.refl _) rfl)⟩
    | some r =>
      obtain ⟨n, z⟩ := r
      obtain ⟨a, rfl, ha⟩ := hv
      obtain ⟨b, vs, rfl, hb, hvs⟩ := ht
      have hz : n + z.length ≤ C := hr1 n z rfl
      have hlt : n + z.length < rows.length := by rw [hr2.len]; omega
      have hg : rows.getD (n + z.length) none = rows[n + z.length] := by rw [List.getD_eq_getElem?_getD, List.getElem?_eq_getElem hlt, Option.getD_some]
      obtain ⟨x, hx, rx⟩ := Paired.at' hvs (List.getElem?_eq_getElem hlt)
      have o2 : OkRow C rows[n + z.length] := hr2.ok _ (List.getElem_mem hlt)
      refine ⟨_, rfl, rfl, _, rfl, ifF ref_non ?_⟩
      refine ⟨_, rfl, a, _, rfl, .inl (.inl ha), rfl, _, _, rfl, _, _, rfl, rfl, ?_⟩
      refine ⟨_, rfl, _, rfl, _, rfl, _, _, rfl, ⟨Sle (by omega), rfl⟩, _, _, rfl, rfl, b, vs, _, x, rfl, rfl, .inl (.inl hb), at_of (j := n + z.length) (by rw [Slen]; omega) hx, ?_⟩
      cases q : rows[n + z.length] with
      | none =>
        rw [q] at rx
        have ex : x = .non := rx
        subst ex
        refine ⟨_, rfl, rfl, _, rfl, ifT (by decide) (k _ _ (Ex.refl _) ?_)⟩
        simp only [joinedRow, hg, q]
        rfl
      | some r2 =>
        obtain ⟨n2, z2⟩ := r2
        rw [q] at rx
        obtain ⟨c, rfl, hc⟩ := rx
        have o3 : n2 + z2.length ≤ C := o2 n2 z2 q
        refine ⟨_, rfl, rfl, _, rfl, ifF ref_non ?_⟩
        refine ⟨_, rfl, c, _, _, _, rfl, rfl, .inl (.inl hc), rfl, _, rfl, _, _, rfl, ⟨Sle (by omega), rfl⟩, _, _, rfl, rfl, _, rfl, ?_⟩
        rw [Slen]
        refine ifD (fun c1 => ?_) fun c1 => ?_
        · have c1 : n2 ≤ z.length := by omega
          refine ⟨_, rfl, _, rfl, _, _, rfl, ⟨Sle (by omega), rfl⟩, _, rfl, c, _, _, _, rfl, rfl, .inl (.inl hc), rfl, _, _, rfl, rfl, _, rfl, _, rfl, Sle (by omega), _, rfl, c, _, _, _, rfl, rfl, .inl (.inl hc), rfl, _, _, rfl, rfl, ?_, two_size, fun p hp => k _ _ (Ex.new hp) ?_⟩
          · rw [Slice z (k := z.length - n2) (by rw [Slen]; omega)]
            exact Sle2 (by rw [List.length_drop]; omega) (by omega)
          · rw [show joinedRow (some (n, z)) rows = some (0, z.drop (z.length - n2) ++ z2) by simp only [joinedRow, hg, q, if_pos c1]]
            exact row_new rfl (by rw [Slice z (k := z.length - n2) (by rw [Slen]; omega)]; exact Scat _ _)
        · have c1 : ¬ n2 ≤ z.length := by omega
          refine ⟨_, rfl, c, _, _, _, rfl, rfl, .inl (.inl hc), rfl, _, rfl, _, _, rfl, ⟨Sle (by omega), rfl⟩, _, _, rfl, rfl, _, rfl, _, rfl, c, _, _, _, rfl, rfl, .inl (.inl hc), rfl, _, _, rfl, rfl, Sle2 (by omega) (by omega), two_size, fun p hp => k _ _ (Ex.new hp) ?_⟩
          rw [show joinedRow (some (n, z)) rows = some (n2 - z.length, z ++ z2) by simp only [joinedRow, hg, q, if_neg c1]]
          exact row_new (by rw [Slen]; omega) (Scat _ _)
theorem joined_rows_scope : FnScope ["first", "second", "row"] ["first", "second"] (defScope s_joined_rows) := ⟨rfl, rfl, rfl, by decide +kernel, rfl, by decide +kernel, by decide +kernel⟩
theorem c_joined_rows (T : Tx K mg) (c_joined_row : C8.Cal P w K mg base 1 "joined_row" sp_joined_row []) : C8.Cal P w K mg base 2 "joined_rows" sp_joined_rows [] := by
  obtain ⟨fd, F⟩ := T.d_joined_rows
  refine cal_of F T.m_joined_rows (binds_nil (ps := ["first", "second"]) F fun _ _ _ _ _ _ us hl => match us, hl with | [_, _], _ => rfl) joined_rows_scope (fun vs H Q E h => ?_) (fun cdv A outer s H vs Q E hr h => ?_)
  · obtain ⟨t, u, a, b, C, rfl, _⟩ := h
    rfl
  · have sc := joined_rows_scope
    obtain ⟨t, u, a, b, C, rfl, ht, hu, h1, h2, hC, k⟩ := h
    refine ⟨_, (pss_one (ps_ret (pe_callTy call_tuple_of (by rfl) T.tuple_ (by decide +kernel) (pa_cons (pe_lc (own := [("row", 2)]) (g := gName 2) (tt := tYes) rfl sc.nd (pi_tup (pv 0)) (blkOk_by (N := ["first", "second", "row"]) (sc := defScope s_joined_rows) (by decide +kernel)) (fun _ _ _ _ _ => (pg_name (i := 2) sc.nd rfl (Or.inl rfl))) (fun _ _ _ _ _ => pts_nil) (fun _ _ _ _ _ => (C8.pe_c c_joined_row hr (by decide) rfl (pa_cons (pv 2) (pa_cons (pv 1) pa_nil))))) pa_nil)))), ?_⟩
    obtain ⟨p, vs, rfl, hp, hvs⟩ := ht
    have hl : vs.length = a.length := Paired.len hvs
    refine ⟨_, rfl, p, rfl, ⟨_, .inl (.inl hp)⟩, fun D hD => ?_⟩
    refine lc_gen (walk_tup (K := K) (a := p) (xs := vs)) hD (by rw [hl, h1.len]; omega) (fun H' e => .inl (.inl (e _ _ hp))) (fun i H x H' y => by rw [y.1]; exact Ex.refl _) (fun _ => true) (fun i y H => ∃ r, a[i]? = some r ∧ RowV H y (joinedRow r b)) (fun i y H H' e q => by
      obtain ⟨r, q1, q2⟩ := q
      exact ⟨r, q1, q2.monoT e⟩) ?_ fun ys H' e hy hp2 => ?_
    · intro i x H1 H2 Acc Nn hi e e2 y ka kn
      obtain ⟨rfl, hx⟩ := y
      obtain ⟨r, hr, rx⟩ := Paired.at hvs hx
      refine ⟨rfl, tyes ?_⟩
      refine ⟨_, rfl, _, rfl, x, u, r, b, C, rfl, rx.mono e, hu.mono e, h1.ok r (List.mem_of_getElem? hr), h2, hC, fun v' H3 e3 q => ka rfl _ _ e3 ⟨r, hr, q⟩⟩
    · refine ⟨D, ys, rfl, .inl ⟨.inl (.inl hy), fun l hl2 => k _ _ (Ex.push e hl2) ⟨l, ys, rfl, upd_same, ?_⟩⟩⟩
      refine Paired.of_get ?_ fun i y hy2 => ?_
      · rw [← Paired.len hp2]
        simp only [joinedRows, List.length_map]
        rw [filt_all, List.length_range, hl]
      · obtain ⟨j, hj, r, q1, q2⟩ := Paired.at' hp2 hy2
        rw [filt_all] at hj
        have ej : i = j := range_at hj
        subst ej
        exact ⟨_, by simp only [joinedRows, List.getElem?_map, q1]; rfl, q2.mono (Ex.new hl2)⟩
theorem identity_rows_scope : FnScope ["capacity", "length"] ["capacity"] (defScope s_identity_rows) := ⟨rfl, rfl, rfl, by decide +kernel, rfl, by decide +kernel, by decide +kernel⟩
theorem c_identity_rows (T : Tx K mg)  : C8.Cal P w K mg base 1 "identity_rows" sp_identity_rows [] := by
  obtain ⟨fd, F⟩ := T.d_identity_rows
  refine cal_of F T.m_identity_rows (binds_nil (ps := ["capacity"]) F fun _ _ _ _ _ _ us hl => match us, hl with | [_], _ => rfl) identity_rows_scope (fun vs H Q E h => ?_) (fun cdv A outer s H vs Q E hr h => ?_)
  · obtain ⟨C, rfl, _⟩ := h
    rfl
  · have sc := identity_rows_scope
    obtain ⟨C, rfl, hC, k⟩ := h
    refine ⟨_, (pss_one (ps_ret (pe_callTy call_tuple_of (by rfl) T.tuple_ (by decide +kernel) (pa_cons (pe_lc (own := [("length", 1)]) (g := gName 1) (tt := tYes) rfl sc.nd (pi_range1 (by rfl) T.range_ (pa_cons (pe_op op_add (pv 0) pe_int) pa_nil)) (blkOk_by (N := ["capacity", "length"]) (sc := defScope s_identity_rows) (by decide +kernel)) (fun _ _ _ _ _ => (pg_name (i := 1) sc.nd rfl (Or.inl rfl))) (fun _ _ _ _ _ => pts_nil) (fun _ _ _ _ _ => (pe_tup (pa_cons (pv 1) (pa_cons pe_str pa_nil))))) pa_nil)))), ?_⟩
    refine ⟨_, rfl, _, _, rfl, rfl, _, rfl, by omega, by omega, fun D hD => ?_⟩
    have en : ((C : Int) + 1).toNat = C + 1 := by omega
    rw [en]
    refine lc_gen (walk_range (lo := 0) (n := C + 1)) hD (by omega) (fun H' e => trivial) (fun i H x H' y => by rw [y.1]; exact Ex.refl _) (fun _ => true) (fun i y H => RowV H y (some (i, []))) (fun i y H H' e q => q.monoT e) ?_ fun ys H' e hy hp2 => ?_
    · intro i x H1 H2 Acc Nn hi e e2 y ka kn
      obtain ⟨rfl, rfl⟩ := y
      refine ⟨rfl, tyes ?_⟩
      exact ⟨_, rfl, two_size, fun q hq => ka rfl _ _ (Ex.new hq) (row_new (by omega) rfl)⟩
    · refine ⟨D, ys, rfl, .inl ⟨.inl (.inl hy), fun l hl2 => k _ _ (Ex.push e hl2) ⟨l, ys, rfl, upd_same, ?_⟩⟩⟩
      refine Paired.of_get ?_ fun i y hy2 => ?_
      · rw [← Paired.len hp2]
        simp only [identityRows, List.length_map]
        rw [filt_all]
      · obtain ⟨j, hj, q2⟩ := Paired.at' hp2 hy2
        rw [filt_all] at hj
        have ej : i = j := range_at hj
        subst ej
        have hi : i < C + 1 := by
          have := (List.getElem?_eq_some_iff.mp hj).1
          rwa [List.length_range] at this
        exact ⟨_, by simp only [identityRows, List.getElem?_map, List.getElem?_range hi]; rfl, q2.mono (Ex.new hl2)⟩
end
end Fq

set_option Elab.async false
set_option linter.all false
set_option maxRecDepth 100000
set_option maxHeartbeats 4000000
namespace Fq
open PySem PySem.Spec PyProof.Rows L2
open Evl (Ex Ex.refl Ex.trans Ex.new Ex.mut fresh_back ex_l ex_t sq_of st_of)
section
variable {P : Program} {w : World} {K : PySem.W.Frag} {mg : Str → Option Value} {base : Heap}
theorem power_rows_scope : FnScope ["rows", "exponent", "found", "factor", "left"] ["rows", "exponent"] (defScope s_power_rows) := ⟨rfl, rfl, rfl, by decide +kernel, rfl, by decide +kernel, by decide +kernel⟩
theorem c_power_rows (T : Tx K mg) (c_identity_rows : C8.Cal P w K mg base 1 "identity_rows" sp_identity_rows []) (c_joined_rows : C8.Cal P w K mg base 2 "joined_rows" sp_joined_rows []) : C8.Cal P w K mg base 3 "power_rows" sp_power_rows [] := by
  obtain ⟨fd, F⟩ := T.d_power_rows
  refine cal_of F T.m_power_rows (binds_nil (ps := ["rows", "exponent"]) F fun _ _ _ _ _ _ us hl => match us, hl with | [_, _], _ => rfl) power_rows_scope (fun vs H Q E h => ?_) (fun cdv A outer s H vs Q E hr h => ?_)
  · obtain ⟨t, rows, C, e, rfl, _⟩ := h
    rfl
  · have sc := power_rows_scope
    obtain ⟨t, rows, C, e, rfl, ht, hr1, hC, k⟩ := h
    refine ⟨_, (pss_cons (ps_par3 (i := 2) (j := 3) (l := 4) (by rfl) sc.nd rfl rfl rfl (by decide) (by decide) (by decide) rfl rfl rfl (pa_cons (C8.pe_c c_identity_rows hr (by decide) rfl (pa_cons (pe_op op_sub (pe_callB call_len (by rfl) T.len_ (by decide +kernel) (pa_cons (pv 0) pa_nil)) pe_int) pa_nil)) (pa_cons (pv 0) (pa_cons (pv 1) pa_nil))) (by rfl))
    (pss_cons (ps_while PassesOwn.never (pt_cmpR op_gt (pv 4) pe_int (nomark _))
    (pss_cons (ps_if (pt_cmpR op_eq (pe_op op_mod (pv 4) pe_int) pe_int (nomark _))
      (pss_one (ps_set (i := 2) sc.nd rfl (Or.inl rfl) (C8.pe_c c_joined_rows hr (by decide) rfl (pa_cons (pv 2) (pa_cons (pv 3) pa_nil)))))
      pss_nil)
      (pss_cons (ps_set (i := 3) sc.nd rfl (Or.inl rfl) (C8.pe_c c_joined_rows hr (by decide) rfl (pa_cons (pv 3) (pa_cons (pv 3) pa_nil))))
      (pss_one (ps_set (i := 4) sc.nd rfl (Or.inl rfl) (pe_op op_fdiv (pv 4) pe_int))))))
    (pss_one (ps_ret (pv 2))))), ?_⟩
    obtain ⟨a, vs, rfl, ha, hvs⟩ := ht
    have hl : vs.length = rows.length := Paired.len hvs
    refine ⟨_, rfl, _, vs.length, rfl, .inr ⟨vs, .inl (.inl ha), rfl⟩, _, _, rfl, rfl, C, ?_, hC, fun v1 H1 e1 q1 => ?_⟩
    · exact congrArg (fun z : Int => [V.int z]) (by rw [hl, hr1.len]; omega)
    refine ⟨_, rfl, _, rfl, _, _, _, rfl, ?_⟩
    -- the loop: what is left to be computed stays the same
    refine ⟨fun m σ H' => ∃ (v2 v3 : V) (f g : List Row), σ = [some (.ref a), some (.int (e : Int)), some v2, some v3, some (.int (m : Int))] ∧ Ex H H' ∧ TabV H' v2 f ∧ TabV H' v3 g ∧ OkRows C f ∧ OkRows C g ∧ powerLoop f g m = powerRows rows e,
      ⟨e, v1, .ref a, identityRows C, rows, rfl, e1, q1, TabV.mono e1 ⟨a, vs, rfl, ha, hvs⟩, okRows_identity C, hr1, ?_⟩, ?_⟩
    · unfold powerRows
      rw [hr1.len]
      rfl
    · rintro m σ H' ⟨v2, v3, f, g, rfl, e2, q2, q3, o2, o3, hp⟩
      refine ⟨_, rfl, _, _, rfl, rfl, _, rfl, ifD (fun c1 => ?_) fun c1 => ?_⟩
      · have c1 : 0 < m := by omega
        have hp' := hp
        rw [powerLoop, if_neg (show ¬ m = 0 by omega)] at hp'
        have e4 : ((m / 2 : Nat) : Int) = (m : Int) / 2 := Int.natCast_ediv m 2
        refine ⟨fun σ' H2 => ∃ (v2 v3 : V) (f g : List Row), σ' = [some (.ref a), some (.int (e : Int)), some v2, some v3, some (.int ((m / 2 : Nat) : Int))] ∧ Ex H H2 ∧ TabV H2 v2 f ∧ TabV H2 v3 g ∧ OkRows C f ∧ OkRows C g ∧ powerLoop f g (m / 2) = powerRows rows e, fun σ' H2 q => ⟨m / 2, by omega, q⟩, ?_⟩
        have second : ∀ (u2 : V) (H2 : Hp) (f2 : List Row), Ex H H2 → TabV H2 u2 f2 → TabV H2 v3 g → OkRows C f2 → powerLoop f2 (joinedRows g g) (m / 2) = powerRows rows e → _ := fun u2 H2 f2 e5 r2 r3 o5 hp2 =>
          (show tSeq (tAsg (tCall sp_joined_rows [] C8.E0 (tCons (tVar 3) (tCons (tVar 3) tNil))) (gName 3)) (tAsg (tOp (rI CDiv fun i j => .int (i / j)) (tVar 4) (tC (.int 2))) (gName 4))
            { nx := fun σ' H2 => ∃ (v2 v3 : V) (f g : List Row), σ' = [some (.ref a), some (.int (e : Int)), some v2, some v3, some (.int ((m / 2 : Nat) : Int))] ∧ Ex H H2 ∧ TabV H2 v2 f ∧ TabV H2 v3 g ∧ OkRows C f ∧ OkRows C g ∧ powerLoop f g (m / 2) = powerRows rows e, rt := Q, ct := fun σ' H2 => ∃ (v2 v3 : V) (f g : List Row), σ' = [some (.ref a), some (.int (e : Int)), some v2, some v3, some (.int ((m / 2 : Nat) : Int))] ∧ Ex H H2 ∧ TabV H2 v2 f ∧ TabV H2 v3 g ∧ OkRows C f ∧ OkRows C g ∧ powerLoop f g (m / 2) = powerRows rows e, bk := (tRet (tVar 2)) { nx := fun _ H' => Q .non H', rt := Q } }
            [some (.ref a), some (.int (e : Int)), some u2, some v3, some (.int (m : Int))] H2 from by
            refine ⟨_, rfl, _, rfl, v3, v3, g, g, C, rfl, r3, r3, o3, o3, hC, fun u3 H3 e6 r4 => ?_⟩
            refine ⟨_, rfl, _, _, rfl, rfl, ⟨by decide, by decide⟩, ?_⟩
            exact ⟨u2, u3, f2, joinedRows g g, by rw [e4]; rfl, e5.trans e6, r2.mono e6, r4, o5, okRows_joined o3 o3, hp2⟩)
        refine ⟨_, rfl, _, _, rfl, rfl, (by show (0 : Int) < 2; decide), rfl, _, rfl, ifD (fun c2 => ?_) fun c2 => ?_⟩
        · have c2 : m % 2 = 1 := by have := V_int.mp c2; omega
          rw [if_pos c2] at hp'
          refine ⟨_, rfl, _, rfl, v2, v3, f, g, C, rfl, q2, q3, o2, o3, hC, fun u2 H2 e5 r2 => ?_⟩
          exact second u2 H2 (joinedRows f g) (e2.trans e5) r2 (q3.mono e5) (okRows_joined o2 o3) hp'
        · have c2 : ¬ m % 2 = 1 := fun q => c2 (V_int.mpr (by omega))
          rw [if_neg c2] at hp'
          exact second v2 H' f e2 q2 q3 o2 hp'
      · have c1 : m = 0 := by omega
        subst c1
        rw [powerLoop, if_pos rfl] at hp
        exact ⟨_, rfl, k _ _ e2 (by rw [← hp]; exact q2)⟩
end
end Fq

set_option Elab.async false
set_option linter.all false
set_option maxRecDepth 100000
set_option maxHeartbeats 4000000
namespace Fq
open PySem PySem.Spec PyProof.Rows L2
open Evl (Ex Ex.refl Ex.trans Ex.new Ex.mut fresh_back ex_l ex_t sq_of st_of)
section
variable {P : Program} {w : World} {K : PySem.W.Frag} {mg : Str → Option Value} {base : Heap}
theorem kit_int_int {K : PySem.W.Frag} : PySem.W.kitOne K (.type "int") (.type "int") = some true := by first | rfl | decide +kernel
theorem kit_int_bool {K : PySem.W.Frag} : PySem.W.kitOne K (.type "int") (.type "bool") = some false := by first | rfl | decide +kernel
theorem kit_str_str {K : PySem.W.Frag} : PySem.W.kitOne K (.type "str") (.type "str") = some true := by first | rfl | decide +kernel
theorem is_integer_scope : FnScope ["value", "least"] ["value", "least"] (defScope s_is_integer) := ⟨rfl, rfl, rfl, by decide +kernel, rfl, by decide +kernel, by decide +kernel⟩
theorem is_integer_any (T : Tx K mg) {fd : FuncData} {dvs : List V} (F : FunD K "is_integer" "is_integer" (defArgs s_is_integer) (defBody s_is_integer) (defScope s_is_integer) [V.int 0] [] (He.ga K "is_integer") fd) (b : ∃ ds, Vals dvs ds ∧ Binds K fd ["value", "least"] ds) : C8.Cal P w K mg base 1 "is_integer" sp_is_integer dvs := by
  refine cal_of F T.m_is_integer b is_integer_scope (fun vs H Q E h => ?_) (fun cdv A outer s H vs Q E hr h => ?_)
  · obtain ⟨n, l, rfl, _⟩ := h
    rfl
  · have sc := is_integer_scope
    obtain ⟨n, l, rfl, k⟩ := h
    refine ⟨_, (pss_one (ps_ret (pe_and (pe_callB call_isi (by rfl) T.isinstance_ (by decide +kernel) (pa_cons (pv 0) (pa_cons (pe_bltn (v := .ty "int") (u := .type "int") (by rfl) T.int_ (by decide +kernel) rfl) pa_nil))) (pe_and (pe_not (pe_callB call_isi (by rfl) T.isinstance_ (by decide +kernel) (pa_cons (pv 0) (pa_cons (pe_bltn (v := .ty "bool") (u := .type "bool") (by rfl) T.bool_ (by decide +kernel) rfl) pa_nil)))) (pe_one (pe_cmpR op_ge (pv 0) (pv 1) (nomark _))))))), ?_⟩
    refine ⟨_, rfl, _, _, _, _, _, rfl, .ty _, .base (.int n), kit_int_int, _, rfl, ifT rfl ?_⟩
    refine ⟨_, rfl, _, _, _, _, _, rfl, .ty _, .base (.int n), kit_int_bool, _, rfl, _, rfl, ifT rfl ?_⟩
    exact ⟨_, rfl, _, rfl, _, _, rfl, rfl, k _ (Ex.refl _)⟩
theorem c_is_integer (T : Tx K mg) : C8.Cal P w K mg base 1 "is_integer" sp_is_integer [] := by
  obtain ⟨fd, F⟩ := T.d_is_integer
  exact is_integer_any T F (F.binds1 2 1 (by decide) (by rfl) fun _ _ _ _ _ _ _ us its h1 h2 => match us, its, h1, h2 with | [_, _], [_], _, _ => ⟨_, rfl, rfl⟩)
theorem c_is_integer0 (T : Tx K mg) : C8.Cal P w K mg base 1 "is_integer" sp_is_integer [V.int 0] := by
  obtain ⟨fd, F⟩ := T.d_is_integer
  exact is_integer_any T F (F.binds1 1 0 (by decide) (by rfl) fun _ _ _ _ _ _ _ us its h1 h2 => match us, its, h1, h2 with | [_], [_], _, _ => ⟨_, rfl, rfl⟩)
theorem is_text_of_scope : FnScope ["value", "letters", "letter"] ["value", "letters"] (defScope s_is_text_of) := ⟨rfl, rfl, rfl, by decide +kernel, rfl, by decide +kernel, by decide +kernel⟩
theorem c_is_text_of (T : Tx K mg)  : C8.Cal P w K mg base 1 "is_text_of" sp_is_text_of [] := by
  obtain ⟨fd, F⟩ := T.d_is_text_of
  refine cal_of F T.m_is_text_of (binds_nil (ps := ["value", "letters"]) F fun _ _ _ _ _ _ us hl => match us, hl with | [_, _], _ => rfl) is_text_of_scope (fun vs H Q E h => ?_) (fun cdv A outer s H vs Q E hr h => ?_)
  · obtain ⟨a, b, rfl, _⟩ := h
    rfl
  · have sc := is_text_of_scope
    obtain ⟨a, b, rfl, hl, k⟩ := h
    refine ⟨_, (pss_one (ps_ret (pe_and (pe_callB call_isi (by rfl) T.isinstance_ (by decide +kernel) (pa_cons (pv 0) (pa_cons (pe_bltn (v := .ty "str") (u := .type "str") (by rfl) T.str_ (by decide +kernel) rfl) pa_nil))) (pe_one (pe_callB (cr_all rfl) (by rfl) T.all_ (by decide +kernel) (pa_cons (pe_lc (own := [("letter", 2)]) (g := gName 2) (tt := tYes) rfl sc.nd (pi_str (pv 0)) (blkOk_by (N := ["value", "letters", "letter"]) (sc := defScope s_is_text_of) (by decide +kernel)) (fun _ _ _ _ _ => (pg_name (i := 2) sc.nd rfl (Or.inl rfl))) (fun _ _ _ _ _ => pts_nil) (fun _ _ _ _ _ => (pe_cmpR op_in_sign (pv 2) (pv 1) rfl))) pa_nil)))))), ?_⟩
    refine ⟨_, rfl, _, _, _, _, _, rfl, .ty _, .base (.str _), kit_str_str, _, rfl, ifT rfl ?_⟩
    refine ⟨_, rfl, _, rfl, fun D hD => ?_⟩
    refine lc_gen (walk_str (z := SX.S a)) hD (by show a.toArray.size ≤ 100000; rw [List.size_toArray]; omega) (fun H' e => trivial) (fun i H x H' y => by rw [y.1]; exact Ex.refl _) (fun _ => true) (fun i y H => ∃ c, a[i]? = some c ∧ y = .bl (decide (c ∈ b))) (fun i y H H' e q => q) ?_ fun ys H' e hy hp2 => ?_
    · intro i x H1 H2 Acc Nn hi e e2 y ka kn
      obtain ⟨rfl, c, hc, rfl⟩ := y
      have hc : a[i]? = some c := by
        have q : a.toArray[i]? = some c := hc
        rwa [List.getElem?_toArray] at q
      refine ⟨rfl, tyes ?_⟩
      exact ⟨_, rfl, _, rfl, c, SX.S b, rfl, rfl, ka rfl _ _ (Ex.refl _) ⟨c, hc, by simp⟩⟩
    · refine ⟨D, a.map fun c => decide (c ∈ b), rfl, .inl (.inl (by
        rw [hy]
        refine congrArg (fun z => some (HO.lst z)) (List.ext_getElem? fun i => ?_)
        have hlen : ys.length = a.length := by
          rw [← Paired.len hp2, filt_all, List.length_range]
          show a.toArray.size = _
          rw [List.size_toArray]
        cases h1 : ys[i]? with
        | none =>
          have h2 : a.length ≤ i := by rw [← hlen]; exact List.getElem?_eq_none_iff.mp h1
          simp [h2]
        | some y =>
          obtain ⟨j, hj, c, q1, q2⟩ := Paired.at' hp2 h1
          rw [filt_all] at hj
          have ej := range_at hj
          subst ej
          simp [q1, q2])), ?_⟩
      have e3 : (a.map fun c => decide (c ∈ b)).all id = decide (∀ c ∈ a, c ∈ b) := by
        rw [List.all_map]
        by_cases q : ∀ c ∈ a, c ∈ b
        · rw [decide_eq_true q, List.all_eq_true]
          intro c hc
          exact decide_eq_true (q c hc)
        · rw [decide_eq_false q, List.all_eq_false]
          obtain ⟨c, hc⟩ := Classical.not_forall.mp q
          obtain ⟨h1, h2⟩ := Classical.not_imp.mp hc
          exact ⟨c, h1, by simpa using h2⟩
      rw [e3]
      exact k _ e
theorem is_capacity_scope : FnScope ["value"] ["value"] (defScope s_is_capacity) := ⟨rfl, rfl, rfl, by decide +kernel, rfl, by decide +kernel, by decide +kernel⟩
theorem c_is_capacity (T : Tx K mg) (c_is_integer : C8.Cal P w K mg base 1 "is_integer" sp_is_integer []) : C8.Cal P w K mg base 2 "is_capacity" sp_is_capacity [] := by
  obtain ⟨fd, F⟩ := T.d_is_capacity
  refine cal_of F T.m_is_capacity (binds_nil (ps := ["value"]) F fun _ _ _ _ _ _ us hl => match us, hl with | [_], _ => rfl) is_capacity_scope (fun vs H Q E h => ?_) (fun cdv A outer s H vs Q E hr h => ?_)
  · obtain ⟨n, rfl, _⟩ := h
    rfl
  · have sc := is_capacity_scope
    obtain ⟨n, rfl, k⟩ := h
    refine ⟨_, (pss_one (ps_ret (pe_and (C8.pe_c c_is_integer hr (by decide) rfl (pa_cons (pv 0) (pa_cons pe_int pa_nil))) (pe_one (pe_cmpR op_le (pv 0) (C8.pe_gc rfl T.g_MOST) (nomark _)))))), ?_⟩
    refine ⟨_, rfl, n, 1, rfl, fun H1 e1 => ?_⟩
    refine ⟨_, rfl, ifD (fun c => ?_) fun c => ?_⟩
    · refine ⟨_, rfl, _, _, rfl, rfl, ?_⟩
      show Q (.bl (decide (n ≤ 100))) H1
      rw [show decide (n ≤ 100) = decide (1 ≤ n ∧ n ≤ 100) from decide_eq_decide.mpr ⟨fun q => ⟨c, q⟩, fun q => q.2⟩]
      exact k _ e1
    · have := k _ e1
      rwa [decide_eq_false (fun q => c q.1)] at this
theorem check_capacity_scope : FnScope ["value"] ["value"] (defScope s_check_capacity) := ⟨rfl, rfl, rfl, by decide +kernel, rfl, by decide +kernel, by decide +kernel⟩
theorem c_check_capacity (T : Tx K mg) (c_is_capacity : C8.Cal P w K mg base 2 "is_capacity" sp_is_capacity []) : C8.Cal P w K mg base 3 "check_capacity" sp_check_capacity [] := by
  obtain ⟨fd, F⟩ := T.d_check_capacity
  refine cal_of F T.m_check_capacity (binds_nil (ps := ["value"]) F fun _ _ _ _ _ _ us hl => match us, hl with | [_], _ => rfl) check_capacity_scope (fun vs H Q E h => ?_) (fun cdv A outer s H vs Q E hr h => ?_)
  · obtain ⟨n, rfl, _⟩ := h
    rfl
  · have sc := check_capacity_scope
    obtain ⟨n, rfl, hn, k⟩ := h
    refine ⟨_, (pss_one (ps_if (pt_not (pt_val (C8.pe_c c_is_capacity hr (by decide) rfl (pa_cons (pv 0) pa_nil))))
    pss_never
    pss_nil)), ?_⟩
    refine ⟨_, rfl, n, rfl, fun H1 e1 => ?_⟩
    exact ⟨_, rfl, ifF (by rw [decide_eq_true hn]; rfl) (k _ e1)⟩
theorem is_mode_scope : FnScope ["value"] ["value"] (defScope s_is_mode) := ⟨rfl, rfl, rfl, by decide +kernel, rfl, by decide +kernel, by decide +kernel⟩
theorem c_is_mode (T : Tx K mg)  : C8.Cal P w K mg base 1 "is_mode" sp_is_mode [] := by
  obtain ⟨fd, F⟩ := T.d_is_mode
  refine cal_of F T.m_is_mode (binds_nil (ps := ["value"]) F fun _ _ _ _ _ _ us hl => match us, hl with | [_], _ => rfl) is_mode_scope (fun vs H Q E h => ?_) (fun cdv A outer s H vs Q E hr h => ?_)
  · obtain ⟨m, rfl, _⟩ := h
    rfl
  · have sc := is_mode_scope
    obtain ⟨m, rfl, k⟩ := h
    refine ⟨_, (pss_one (ps_ret (pe_and (pe_callB call_isi (by rfl) T.isinstance_ (by decide +kernel) (pa_cons (pv 0) (pa_cons (pe_bltn (v := .ty "str") (u := .type "str") (by rfl) T.str_ (by decide +kernel) rfl) pa_nil))) (pe_one (pe_cmpR op_in_seq (pv 0) (pe_glob (v := .ref (He.ga K "MODES")) rfl T.MODES_ rfl) rfl))))), ?_⟩
    refine ⟨_, rfl, _, _, _, _, _, rfl, .ty _, .base (.str _), kit_str_str, _, rfl, ifT rfl ?_⟩
    refine ⟨_, rfl, _, _, rfl, .inr (T.modes _), rfl, rfl, ?_⟩
    have e : inV (.str m.s) [.str "oldest", .str "newest", .str "strict"] = true := by cases m <;> decide +kernel
    rw [e]
    exact k _ (Ex.refl _)
theorem check_mode_scope : FnScope ["value"] ["value"] (defScope s_check_mode) := ⟨rfl, rfl, rfl, by decide +kernel, rfl, by decide +kernel, by decide +kernel⟩
theorem c_check_mode (T : Tx K mg) (c_is_mode : C8.Cal P w K mg base 1 "is_mode" sp_is_mode []) : C8.Cal P w K mg base 2 "check_mode" sp_check_mode [] := by
  obtain ⟨fd, F⟩ := T.d_check_mode
  refine cal_of F T.m_check_mode (binds_nil (ps := ["value"]) F fun _ _ _ _ _ _ us hl => match us, hl with | [_], _ => rfl) check_mode_scope (fun vs H Q E h => ?_) (fun cdv A outer s H vs Q E hr h => ?_)
  · obtain ⟨m, rfl, _⟩ := h
    rfl
  · have sc := check_mode_scope
    obtain ⟨m, rfl, k⟩ := h
    refine ⟨_, (pss_one (ps_if (pt_not (pt_val (C8.pe_c c_is_mode hr (by decide) rfl (pa_cons (pv 0) pa_nil))))
    pss_never
    pss_nil)), ?_⟩
    refine ⟨_, rfl, m, rfl, fun H1 e1 => ?_⟩
    exact ⟨_, rfl, ifF rfl (k _ e1)⟩
theorem letters_S : ("abcdefghijklmnopqrstuvwxyz" : Str) = SX.S (List.range' 97 26) := by decide +kernel
theorem mem_letters {c : Nat} : c ∈ List.range' 97 26 ↔ Letter c := by
  rw [List.mem_range'_1]
  unfold Letter
  omega
theorem is_queue_scope : FnScope ["value", "capacity"] ["value", "capacity"] (defScope s_is_queue) := ⟨rfl, rfl, rfl, by decide +kernel, rfl, by decide +kernel, by decide +kernel⟩
theorem is_queue_any (T : Tx K mg) (c_check_capacity : C8.Cal P w K mg base 3 "check_capacity" sp_check_capacity []) (c_is_text_of : C8.Cal P w K mg base 1 "is_text_of" sp_is_text_of []) {fd : FuncData} {dvs : List V} (F : FunD K "is_queue" "is_queue" (defArgs s_is_queue) (defBody s_is_queue) (defScope s_is_queue) [V.int 100] [] (He.ga K "is_queue") fd) (b : ∃ ds, Vals dvs ds ∧ Binds K fd ["value", "capacity"] ds) : C8.Cal P w K mg base 4 "is_queue" sp_is_queue dvs := by
  refine cal_of F T.m_is_queue b is_queue_scope (fun vs H Q E h => ?_) (fun cdv A outer s H vs Q E hr h => ?_)
  · obtain ⟨a, C, rfl, _⟩ := h
    rfl
  · have sc := is_queue_scope
    obtain ⟨a, C, rfl, hC, hl, ha, k⟩ := h
    refine ⟨_, (pss_cons (ps_expr (C8.pe_c c_check_capacity hr (by decide) rfl (pa_cons (pv 1) pa_nil)))
    (pss_one (ps_ret (pe_and (C8.pe_c c_is_text_of hr (by decide) rfl (pa_cons (pv 0) (pa_cons (C8.pe_gc rfl T.g_LETTERS) pa_nil))) (pe_one (pe_cmpR op_le (pe_callB call_len (by rfl) T.len_ (by decide +kernel) (pa_cons (pv 0) pa_nil)) (pv 1) (nomark _))))))), ?_⟩
    refine ⟨_, rfl, (C : Int), rfl, by omega, fun H1 e1 => ?_⟩
    refine ⟨_, rfl, a, List.range' 97 26, congrArg (fun z => [V.str (SX.S a), V.str z]) letters_S, hl, fun H2 e2 => ?_⟩
    refine ⟨_, rfl, ifT (decide_eq_true fun c hc => mem_letters.mpr (ha c hc)) ?_⟩
    refine ⟨_, rfl, _, _, rfl, ⟨Sle (by omega), rfl⟩, _, rfl, _, _, rfl, rfl, ?_⟩
    show Q (.bl (decide (((SX.S a).length : Int) ≤ (C : Int)))) H2
    rw [Slen, show decide ((a.length : Int) ≤ (C : Int)) = decide (a.length ≤ C) from decide_eq_decide.mpr Int.ofNat_le]
    exact k _ (e1.trans e2)
theorem c_is_queue (T : Tx K mg) (c_check_capacity : C8.Cal P w K mg base 3 "check_capacity" sp_check_capacity []) (c_is_text_of : C8.Cal P w K mg base 1 "is_text_of" sp_is_text_of []) : C8.Cal P w K mg base 4 "is_queue" sp_is_queue [] := by
  obtain ⟨fd, F⟩ := T.d_is_queue
  exact is_queue_any T c_check_capacity c_is_text_of F (F.binds1 2 1 (by decide) (by rfl) fun _ _ _ _ _ _ _ us its h1 h2 => match us, its, h1, h2 with | [_, _], [_], _, _ => ⟨_, rfl, rfl⟩)
theorem c_is_queue0 (T : Tx K mg) (c_check_capacity : C8.Cal P w K mg base 3 "check_capacity" sp_check_capacity []) (c_is_text_of : C8.Cal P w K mg base 1 "is_text_of" sp_is_text_of []) : C8.Cal P w K mg base 4 "is_queue" sp_is_queue [V.int 100] := by
  obtain ⟨fd, F⟩ := T.d_is_queue
  exact is_queue_any T c_check_capacity c_is_text_of F (F.binds1 1 0 (by decide) (by rfl) fun _ _ _ _ _ _ _ us its h1 h2 => match us, its, h1, h2 with | [_], [_], _, _ => ⟨_, rfl, rfl⟩)
end
end Fq

set_option Elab.async false
set_option linter.all false
set_option maxRecDepth 100000
set_option maxHeartbeats 4000000
namespace Fq
open PySem PySem.Spec PyProof.Rows L2
open Evl (Ex Ex.refl Ex.trans Ex.new Ex.mut fresh_back ex_l ex_t sq_of st_of)
section
variable {P : Program} {w : World} {K : PySem.W.Frag} {mg : Str → Option Value} {base : Heap}
theorem kit_tup_tup {K : PySem.W.Frag} : PySem.W.kitOne K (.type "tuple") (.type "tuple") = some true := by first | rfl | decide +kernel
theorem at0 {x : V} {xs : List V} : atI (x :: xs) 0 = some x := at_of (j := 0) rfl rfl
theorem at1 {x y : V} {xs : List V} : atI (x :: y :: xs) 1 = some y := at_of (j := 1) rfl rfl
theorem at2 {x y z : V} {xs : List V} : atI (x :: y :: z :: xs) 2 = some z := at_of (j := 2) rfl rfl
theorem at3 {x y z u : V} {xs : List V} : atI (x :: y :: z :: u :: xs) 3 = some u := at_of (j := 3) rfl rfl
theorem at4 {x y z u v : V} {xs : List V} : atI (x :: y :: z :: u :: v :: xs) 4 = some v := at_of (j := 4) rfl rfl
theorem min_if {i j : Int} : (if j < i then j else i) = min i j := by split <;> omega
theorem max_if {i j : Int} : (if j > i then j else i) = max i j := by split <;> omega
theorem five_size : 5 ≤ sizeLine := by decide
theorem FiveV.mono {K : PySem.W.Frag} {H H' : Hp} {v : V} {f : Five} (e : Ex H H') (h : FiveV K H v f) : FiveV K H' v f := by
  obtain ⟨a, rfl, q⟩ := h
  exact ⟨a, rfl, ex_t e q⟩
theorem five_new {K : PySem.W.Frag} {H : Hp} {p : Addr} {a b c d e : Int} {f : Five} (h1 : a = f.1) (h2 : b = f.2.1) (h3 : c = f.2.2.1) (h4 : d = f.2.2.2.1) (h5 : e = f.2.2.2.2) : FiveV K (upd H p (.tup [.int a, .int b, .int c, .int d, .int e])) (.ref p) f := by
  subst h1 h2 h3 h4 h5
  exact ⟨p, rfl, .inl (.inl upd_same)⟩
theorem is_row_scope : FnScope ["value", "length", "capacity"] ["value", "length", "capacity"] (defScope s_is_row) := ⟨rfl, rfl, rfl, by decide +kernel, rfl, by decide +kernel, by decide +kernel⟩
theorem c_is_row (T : Tx K mg) (c_is_integer : C8.Cal P w K mg base 1 "is_integer" sp_is_integer [V.int 0]) (c_is_queue : C8.Cal P w K mg base 4 "is_queue" sp_is_queue []) : C8.Cal P w K mg base 5 "is_row" sp_is_row [] := by
  obtain ⟨fd, F⟩ := T.d_is_row
  refine cal_of F T.m_is_row (binds_nil (ps := ["value", "length", "capacity"]) F fun _ _ _ _ _ _ us hl => match us, hl with | [_, _, _], _ => rfl) is_row_scope (fun vs H Q E h => ?_) (fun cdv A outer s H vs Q E hr h => ?_)
  · obtain ⟨v, r, n, C, rfl, _⟩ := h
    rfl
  · have sc := is_row_scope
    obtain ⟨v, r, n, C, rfl, hv, hg, hC, k⟩ := h
    refine ⟨_, (pss_cons (ps_if (pt_cmpR op_isN (pv 0) pe_non (nomark _))
    (pss_one (ps_ret pe_bl))
    pss_nil)
    (pss_cons (ps_if (PW.pt (pw_or (pt_not (pt_val (pe_callB call_isi (by rfl) T.isinstance_ (by decide +kernel) (pa_cons (pv 0) (pa_cons (pe_bltn (v := .ty "tuple") (u := .type "tuple") (by rfl) T.tuple_ (by decide +kernel) rfl) pa_nil))))) (pw_or (pt_cmpR op_ne (pe_callB call_len (by rfl) T.len_ (by decide +kernel) (pa_cons (pv 0) pa_nil)) pe_int (nomark _)) (pw_or (pt_not (pt_val (C8.pe_c c_is_integer hr (by decide) rfl (pa_cons (pe_ix ix_tup (pv 0) pe_int (fun _ _ => rfl)) pa_nil)))) (pw_or1 (pt_cmpR op_gt (pe_ix ix_tup (pv 0) pe_int (fun _ _ => rfl)) (pv 1) (nomark _)))))))
    (pss_one (ps_ret pe_bl))
    pss_nil)
    (pss_one (ps_ret (pe_and (C8.pe_c c_is_queue hr (by decide) rfl (pa_cons (pe_ix ix_tup (pv 0) pe_int (fun _ _ => rfl)) (pa_cons (pv 2) pa_nil))) (pe_one (pe_cmpR op_le (pe_op op_add (pe_ix ix_tup (pv 0) pe_int (fun _ _ => rfl)) (pe_callB call_len (by rfl) T.len_ (by decide +kernel) (pa_cons (pe_ix ix_tup (pv 0) pe_int (fun _ _ => rfl)) pa_nil))) (pv 2) (nomark _)))))))), ?_⟩
    cases r with
    | none =>
      have ev : v = .non := hv
      subst ev
      exact ⟨_, rfl, rfl, _, rfl, ifT (by decide) (k _ (Ex.refl _))⟩
    | some r =>
      obtain ⟨m, z⟩ := r
      obtain ⟨a, rfl, ha⟩ := hv
      obtain ⟨g1, g2, g3⟩ := hg m z rfl
      refine ⟨_, rfl, rfl, _, rfl, ifF ref_non ?_⟩
      refine ⟨_, rfl, _, _, _, _, _, rfl, .ty _, .base (.tup ha), kit_tup_tup, _, rfl, ifF rfl ?_⟩
      refine ⟨_, rfl, _, 2, rfl, .inr ⟨_, .inl (.inl ha), rfl⟩, rfl, _, rfl, ifF rfl ?_⟩
      refine ⟨_, rfl, a, _, _, _, rfl, rfl, .inl (.inl ha), at0, (m : Int), 0, rfl, fun H1 e1 => ?_⟩
      have ha1 := e1 _ _ ha
      refine ⟨_, rfl, ifF (by rw [decide_eq_true (Int.natCast_nonneg m)]; rfl) ?_⟩
      refine ⟨_, rfl, a, _, _, _, rfl, rfl, .inl (.inl ha1), at0, _, rfl, _, _, rfl, rfl, _, rfl, ifF (decide_eq_false (by omega)) ?_⟩
      refine ⟨_, rfl, a, _, _, _, rfl, rfl, .inl (.inl ha1), at1, _, rfl, z, C, rfl, hC, by omega, g3, fun H2 e2 => ?_⟩
      have ha2 := e2 _ _ ha1
      refine ⟨_, rfl, ifT (decide_eq_true (by omega)) ?_⟩
      refine ⟨_, rfl, a, _, _, _, rfl, rfl, .inl (.inl ha2), at0, _, rfl, a, _, _, _, rfl, rfl, .inl (.inl ha2), at1, _, _, rfl, ⟨Sle (by omega), rfl⟩, _, _, rfl, rfl, _, rfl, _, _, rfl, rfl, ?_⟩
      have := k _ (e1.trans e2)
      show Q (.bl (decide ((m : Int) + ((SX.S z).length : Int) ≤ (C : Int)))) H2
      rwa [show decide ((m : Int) + ((SX.S z).length : Int) ≤ (C : Int)) = true from decide_eq_true (by rw [Slen]; omega)]
theorem joined_scope : FnScope ["first", "second", "offset", "low", "high", "fall"] ["first", "second"] (defScope s_joined) := ⟨rfl, rfl, rfl, by decide +kernel, rfl, by decide +kernel, by decide +kernel⟩
theorem c_joined (T : Tx K mg)  : C8.Cal P w K mg base 1 "joined" (sp_joined K) [] := by
  obtain ⟨fd, F⟩ := T.d_joined
  refine cal_of F T.m_joined (binds_nil (ps := ["first", "second"]) F fun _ _ _ _ _ _ us hl => match us, hl with | [_, _], _ => rfl) joined_scope (fun vs H Q E h => ?_) (fun cdv A outer s H vs Q E hr h => ?_)
  · obtain ⟨v, u, f, g, rfl, _⟩ := h
    rfl
  · have sc := joined_scope
    obtain ⟨v, u, f, g, rfl, hv, hu, k⟩ := h
    refine ⟨_, (pss_cons (ps_set (i := 2) sc.nd rfl (Or.inl rfl) (pe_op op_sub (pe_ix ix_tup (pv 0) pe_int (fun _ _ => rfl)) (pe_ix ix_tup (pv 0) pe_int (fun _ _ => rfl))))
    (pss_cons (ps_set (i := 3) sc.nd rfl (Or.inl rfl) (pe_callB (call_min2 rfl) (by rfl) T.min_ (by decide +kernel) (pa_cons (pe_ix ix_tup (pv 0) pe_int (fun _ _ => rfl)) (pa_cons (pe_op op_add (pv 2) (pe_ix ix_tup (pv 1) pe_int (fun _ _ => rfl))) pa_nil))))
    (pss_cons (ps_set (i := 4) sc.nd rfl (Or.inl rfl) (pe_callB (call_max2 rfl) (by rfl) T.max_ (by decide +kernel) (pa_cons (pe_ix ix_tup (pv 0) pe_int (fun _ _ => rfl)) (pa_cons (pe_op op_add (pv 2) (pe_ix ix_tup (pv 1) pe_int (fun _ _ => rfl))) pa_nil))))
    (pss_cons (ps_set (i := 5) sc.nd rfl (Or.inl rfl) (pe_callB (call_max3 rfl) (by rfl) T.max_ (by decide +kernel) (pa_cons (pe_ix ix_tup (pv 0) pe_int (fun _ _ => rfl)) (pa_cons (pe_ix ix_tup (pv 1) pe_int (fun _ _ => rfl)) (pa_cons (pe_op op_sub (pe_op op_sub (pe_ix ix_tup (pv 0) pe_int (fun _ _ => rfl)) (pv 2)) (pe_ix ix_tup (pv 1) pe_int (fun _ _ => rfl))) pa_nil)))))
    (pss_one (ps_ret (pe_tup (pa_cons (pe_op op_add (pe_ix ix_tup (pv 0) pe_int (fun _ _ => rfl)) (pe_ix ix_tup (pv 1) pe_int (fun _ _ => rfl))) (pa_cons (pe_op op_add (pe_ix ix_tup (pv 0) pe_int (fun _ _ => rfl)) (pe_ix ix_tup (pv 1) pe_int (fun _ _ => rfl))) (pa_cons (pv 3) (pa_cons (pv 4) (pa_cons (pv 5) pa_nil)))))))))))), ?_⟩
    obtain ⟨a, rfl, ha⟩ := hv
    obtain ⟨b, rfl, hb⟩ := hu
    refine ⟨_, rfl, a, _, _, _, rfl, rfl, ha, at0, _, rfl, a, _, _, _, rfl, rfl, ha, at1, _, _, rfl, rfl, ?_⟩
    refine ⟨_, rfl, a, _, _, _, rfl, rfl, ha, at2, _, rfl, _, rfl, b, _, _, _, rfl, rfl, hb, at2, _, _, rfl, rfl, _, _, rfl, ?_⟩
    refine ⟨_, rfl, a, _, _, _, rfl, rfl, ha, at3, _, rfl, _, rfl, b, _, _, _, rfl, rfl, hb, at3, _, _, rfl, rfl, _, _, rfl, ?_⟩
    refine ⟨_, rfl, a, _, _, _, rfl, rfl, ha, at4, _, rfl, b, _, _, _, rfl, rfl, hb, at4, _, rfl, a, _, _, _, rfl, rfl, ha, at3, _, rfl, _, _, rfl, rfl, _, rfl, b, _, _, _, rfl, rfl, hb, at2, _, _, rfl, rfl, _, _, _, rfl, ?_⟩
    refine ⟨_, rfl, a, _, _, _, rfl, rfl, ha, at0, _, rfl, b, _, _, _, rfl, rfl, hb, at0, _, _, rfl, rfl, _, rfl, a, _, _, _, rfl, rfl, ha, at1, _, rfl, b, _, _, _, rfl, rfl, hb, at1, _, _, rfl, rfl, _, rfl, _, rfl, _, rfl, five_size, fun p hp => k _ _ (Ex.new hp) ?_⟩
    exact five_new rfl rfl min_if max_if rfl
theorem repeated_scope : FnScope ["five", "count", "found", "factor", "left"] ["five", "count"] (defScope s_repeated) := ⟨rfl, rfl, rfl, by decide +kernel, rfl, by decide +kernel, by decide +kernel⟩
theorem c_repeated (T : Tx K mg) (c_joined : C8.Cal P w K mg base 1 "joined" (sp_joined K) []) : C8.Cal P w K mg base 2 "repeated" (sp_repeated K) [] := by
  obtain ⟨fd, F⟩ := T.d_repeated
  refine cal_of F T.m_repeated (binds_nil (ps := ["five", "count"]) F fun _ _ _ _ _ _ us hl => match us, hl with | [_, _], _ => rfl) repeated_scope (fun vs H Q E h => ?_) (fun cdv A outer s H vs Q E hr h => ?_)
  · obtain ⟨v, f, n, rfl, _⟩ := h
    rfl
  · have sc := repeated_scope
    obtain ⟨v, f, n, rfl, hv, k⟩ := h
    refine ⟨_, (pss_cons (ps_par3 (i := 2) (j := 3) (l := 4) (by rfl) sc.nd rfl rfl rfl (by decide) (by decide) (by decide) rfl rfl rfl (pa_cons (pe_glob (v := .ref (He.ga K "NOTHING")) rfl T.NOTHING_ rfl) (pa_cons (pv 0) (pa_cons (pv 1) pa_nil))) (by rfl))
    (pss_cons (ps_while PassesOwn.never (pt_cmpR op_gt (pv 4) pe_int (nomark _))
    (pss_cons (ps_if (pt_cmpR op_eq (pe_op op_mod (pv 4) pe_int) pe_int (nomark _))
      (pss_one (ps_set (i := 2) sc.nd rfl (Or.inl rfl) (C8.pe_c c_joined hr (by decide) rfl (pa_cons (pv 2) (pa_cons (pv 3) pa_nil)))))
      pss_nil)
      (pss_cons (ps_set (i := 3) sc.nd rfl (Or.inl rfl) (C8.pe_c c_joined hr (by decide) rfl (pa_cons (pv 3) (pa_cons (pv 3) pa_nil))))
      (pss_one (ps_set (i := 4) sc.nd rfl (Or.inl rfl) (pe_op op_fdiv (pv 4) pe_int))))))
    (pss_one (ps_ret (pv 2))))), ?_⟩
    obtain ⟨a, rfl, ha⟩ := hv
    refine ⟨_, rfl, _, rfl, _, _, _, rfl, ?_⟩
    refine ⟨fun m σ H' => ∃ (v2 v3 : V) (f2 f3 : Five), σ = [some (.ref a), some (.int (n : Int)), some v2, some v3, some (.int (m : Int))] ∧ Ex H H' ∧ FiveV K H' v2 f2 ∧ FiveV K H' v3 f3 ∧ repLoop f2 f3 m = repeated f n,
      ⟨n, _, .ref a, nothing, f, rfl, Ex.refl _, ⟨_, rfl, T.nothing H⟩, ⟨a, rfl, ha⟩, rfl⟩, ?_⟩
    rintro m σ H' ⟨v2, v3, f2, f3, rfl, e2, q2, q3, hp⟩
    refine ⟨_, rfl, _, _, rfl, rfl, _, rfl, ifD (fun c1 => ?_) fun c1 => ?_⟩
    · have c1 : 0 < m := by omega
      have hp' := hp
      rw [repLoop, if_neg (show ¬ m = 0 by omega)] at hp'
      have e4 : ((m / 2 : Nat) : Int) = (m : Int) / 2 := Int.natCast_ediv m 2
      refine ⟨fun σ' H2 => ∃ (v2 v3 : V) (f2 f3 : Five), σ' = [some (.ref a), some (.int (n : Int)), some v2, some v3, some (.int ((m / 2 : Nat) : Int))] ∧ Ex H H2 ∧ FiveV K H2 v2 f2 ∧ FiveV K H2 v3 f3 ∧ repLoop f2 f3 (m / 2) = repeated f n, fun σ' H2 q => ⟨m / 2, by omega, q⟩, ?_⟩
      refine ⟨_, rfl, _, _, rfl, rfl, (by show (0 : Int) < 2; decide), rfl, _, rfl, ifD (fun c2 => ?_) fun c2 => ?_⟩
      · have c2 : m % 2 = 1 := by have := V_int.mp c2; omega
        rw [if_pos c2] at hp'
        refine ⟨_, rfl, _, rfl, v2, v3, f2, f3, rfl, q2, q3, fun u2 H2 e5 r2 => ?_⟩
        refine ⟨_, rfl, _, rfl, v3, v3, f3, f3, rfl, q3.mono e5, q3.mono e5, fun u3 H3 e6 r4 => ?_⟩
        refine ⟨_, rfl, _, _, rfl, rfl, ⟨by decide, by decide⟩, ?_⟩
        exact ⟨u2, u3, _, _, by rw [e4]; rfl, (e2.trans e5).trans e6, r2.mono e6, r4, hp'⟩
      · have c2 : ¬ m % 2 = 1 := fun q => c2 (V_int.mpr (by omega))
        rw [if_neg c2] at hp'
        refine ⟨_, rfl, _, rfl, v3, v3, f3, f3, rfl, q3, q3, fun u3 H3 e6 r4 => ?_⟩
        refine ⟨_, rfl, _, _, rfl, rfl, ⟨by decide, by decide⟩, ?_⟩
        exact ⟨v2, u3, _, _, by rw [e4]; rfl, e2.trans e6, q2.mono e6, r4, hp'⟩
    · have c1 : m = 0 := by omega
      subst c1
      rw [repLoop, if_pos rfl] at hp
      exact ⟨_, rfl, k _ _ e2 (by rw [← hp]; exact q2)⟩
theorem start_range_scope : FnScope ["five", "capacity", "mode", "puts", "takes", "low", "high", "fall"] ["five", "capacity", "mode"] (defScope s_start_range) := ⟨rfl, rfl, rfl, by decide +kernel, rfl, by decide +kernel, by decide +kernel⟩
theorem c_start_range (T : Tx K mg)  : C8.Cal P w K mg base 1 "start_range" (sp_start_range K) [] := by
  obtain ⟨fd, F⟩ := T.d_start_range
  refine cal_of F T.m_start_range (binds_nil (ps := ["five", "capacity", "mode"]) F fun _ _ _ _ _ _ us hl => match us, hl with | [_, _, _], _ => rfl) start_range_scope (fun vs H Q E h => ?_) (fun cdv A outer s H vs Q E hr h => ?_)
  · obtain ⟨v, f, C, m, rfl, _⟩ := h
    rfl
  · have sc := start_range_scope
    obtain ⟨v, f, C, m, rfl, hv, k⟩ := h
    refine ⟨_, (pss_cons (ps_asg (pv 0) (pg_tup rfl (pgs_cons (pg_name (i := 3) sc.nd rfl (Or.inl rfl)) (pgs_cons (pg_name (i := 4) sc.nd rfl (Or.inl rfl)) (pgs_cons (pg_name (i := 5) sc.nd rfl (Or.inl rfl)) (pgs_cons (pg_name (i := 6) sc.nd rfl (Or.inl rfl)) (pgs_cons (pg_name (i := 7) sc.nd rfl (Or.inl rfl)) pgs_nil)))))))
    (pss_cons (ps_if (pt_cmpR op_eq (pv 2) pe_str (nomark _))
    (pss_one (ps_ret (pe_ifExp (pt_cmpR op_le (pe_op op_sub (pv 6) (pv 5)) (pv 1) (nomark _)) (pe_tup (pa_cons (pe_un un_neg (pv 5)) (pa_cons (pe_op op_sub (pv 1) (pv 6)) pa_nil))) pe_non)))
    pss_nil)
    (pss_one (ps_ret (pe_ifExp (pt_cmpR op_le (pv 7) (pv 1) (nomark _)) (pe_tup (pa_cons (pe_un un_neg (pv 5)) (pa_cons (pv 1) pa_nil))) pe_non))))), ?_⟩
    obtain ⟨a, rfl, ha⟩ := hv
    obtain ⟨puts, takes, low, high, fall⟩ := f
    refine ⟨_, rfl, a, _, rfl, ha, rfl, _, _, rfl, _, _, rfl, _, _, rfl, _, _, rfl, _, _, rfl, rfl, ?_⟩
    refine ⟨_, rfl, rfl, _, rfl, ifD (fun c => ?_) fun c => ?_⟩
    · have em : m = .strict := by
        cases m with
        | strict => rfl
        | oldest => exact absurd c (by decide +kernel)
        | newest => exact absurd c (by decide +kernel)
      subst em
      refine ⟨_, rfl, _, rfl, _, _, rfl, rfl, _, rfl, _, _, rfl, rfl, _, rfl, ifD (fun c2 => ?_) fun c2 => ?_⟩
      · refine ⟨_, rfl, _, rfl, _, rfl, _, rfl, _, _, rfl, rfl, two_size, fun p hp => k _ _ (Ex.new hp) ?_⟩
        simp only [startRange, if_pos c2]
        exact ⟨p, rfl, upd_same⟩
      · refine k _ _ (Ex.refl _) ?_
        simp only [startRange, if_neg c2]
        rfl
    · have em : m = .oldest ∨ m = .newest := by
        cases m with
        | strict => exact absurd rfl c
        | oldest => exact .inl rfl
        | newest => exact .inr rfl
      refine ⟨_, rfl, _, rfl, _, _, rfl, rfl, _, rfl, ifD (fun c2 => ?_) fun c2 => ?_⟩
      · refine ⟨_, rfl, _, rfl, _, rfl, two_size, fun p hp => k _ _ (Ex.new hp) ?_⟩
        rcases em with rfl | rfl <;> (simp only [startRange, if_pos c2]; exact ⟨p, rfl, upd_same⟩)
      · refine k _ _ (Ex.refl _) ?_
        rcases em with rfl | rfl <;> (simp only [startRange, if_neg c2]; rfl)
end
end Fq

set_option Elab.async false
set_option linter.all false
set_option maxRecDepth 100000
set_option maxHeartbeats 4000000
namespace Fq
open PySem PySem.Spec PyProof.Rows L2
open Evl (Ex Ex.refl Ex.trans Ex.new Ex.mut fresh_back ex_l ex_t sq_of st_of)
section
variable {P : Program} {w : World} {K : PySem.W.Frag} {mg : Str → Option Value} {base : Heap}
theorem kit_tup_str {K : PySem.W.Frag} : PySem.W.kitOne K (.type "tuple") (.type "str") = some false := by first | rfl | decide +kernel
theorem deep_down {d : Nat} {is : List Pc} {b : List (List Nat)} {n : Nat} (h : Deep (d + 1) is) (hm : Pc.r b n ∈ is) : Deep d (b.map Pc.t) := by
  cases d with
  | zero => exact (h _ hm).elim
  | succ d =>
    cases d with
    | zero =>
      intro i hi
      obtain ⟨s, _, rfl⟩ := List.mem_map.mp hi
      trivial
    | succ d => trivial
theorem itsOk_body {is : List Pc} {b : List (List Nat)} {n : Nat} (h : ItsOk is) (hm : Pc.r b n ∈ is) : ItsOk (b.map Pc.t) := by
  obtain ⟨h1, h2, _⟩ := h.ok _ hm
  refine ⟨by rw [List.length_map]; exact h1, fun i hi => ?_⟩
  obtain ⟨s, hs, rfl⟩ := List.mem_map.mp hi
  exact h2 s hs
theorem one_new {K : PySem.W.Frag} {H : Hp} {p : Addr} {c : Nat} (h : c = 45) : FiveV K (upd H p (.tup [.int 0, .int 1, .int (-1), .int 0, .int 1])) (.ref p) (oneFive c) := by
  subst h
  exact five_new rfl rfl rfl rfl rfl
theorem one_new' {K : PySem.W.Frag} {H : Hp} {p : Addr} {c : Nat} (h : ¬ c = 45) : FiveV K (upd H p (.tup [.int 1, .int 0, .int 0, .int 1, .int 0])) (.ref p) (oneFive c) := by
  unfold oneFive
  rw [if_neg h]
  exact five_new rfl rfl rfl rfl rfl
theorem five_of_scope : FnScope ["items", "found", "item", "step"] ["items"] (defScope s_five_of) := ⟨rfl, rfl, rfl, by decide +kernel, rfl, by decide +kernel, by decide +kernel⟩
theorem c_five_of_step {d L : Nat} (hL : 2 ≤ L) (T : Tx K mg) (c_five_of : C8.Cal P w K mg base L "five_of" (sp_five_of K d) []) (c_joined : C8.Cal P w K mg base 1 "joined" (sp_joined K) []) (c_repeated : C8.Cal P w K mg base 2 "repeated" (sp_repeated K) []) : C8.Cal P w K mg base (L + 1) "five_of" (sp_five_of K (d + 1)) [] := by
  obtain ⟨fd, F⟩ := T.d_five_of
  refine cal_of F T.m_five_of (binds_nil (ps := ["items"]) F fun _ _ _ _ _ _ us hl => match us, hl with | [_], _ => rfl) five_of_scope (fun vs H Q E h => ?_) (fun cdv A outer s H vs Q E hr h => ?_)
  · obtain ⟨v, is, rfl, _⟩ := h
    rfl
  · have sc := five_of_scope
    obtain ⟨v, is, rfl, hv, hdp, hok, k⟩ := h
    refine ⟨_, (pss_cons (ps_set (i := 1) sc.nd rfl (Or.inl rfl) (pe_glob (v := .ref (He.ga K "NOTHING")) rfl T.NOTHING_ rfl))
    (pss_cons (ps_for PassesOwn.never rfl (pi_list (pv 0)) (pg_name (i := 2) sc.nd rfl (Or.inl rfl))
    (pss_one (ps_if (pt_val (pe_callB call_isi (by rfl) T.isinstance_ (by decide +kernel) (pa_cons (pv 2) (pa_cons (pe_bltn (v := .ty "str") (u := .type "str") (by rfl) T.str_ (by decide +kernel) rfl) pa_nil))))
      (pss_one (ps_for PassesOwn.never rfl (pi_str (pv 2)) (pg_name (i := 3) sc.nd rfl (Or.inl rfl))
        (pss_one (ps_set (i := 1) sc.nd rfl (Or.inl rfl) (C8.pe_c c_joined hr (by omega) rfl (pa_cons (pv 1) (pa_cons (pe_ifExp (pt_cmpR op_eq (pv 3) (C8.pe_gc rfl T.g_TAKE) (nomark _)) (pe_tup (pa_cons pe_int (pa_cons pe_int (pa_cons (pe_un un_neg pe_int) (pa_cons pe_int (pa_cons pe_int pa_nil)))))) (pe_tup (pa_cons pe_int (pa_cons pe_int (pa_cons pe_int (pa_cons pe_int (pa_cons pe_int pa_nil))))))) pa_nil)))))))
      (pss_one (ps_set (i := 1) sc.nd rfl (Or.inl rfl) (C8.pe_c c_joined hr (by omega) rfl (pa_cons (pv 1) (pa_cons (C8.pe_c c_repeated hr (by omega) rfl (pa_cons (C8.pe_c c_five_of hr (Nat.le_refl _) rfl (pa_cons (pe_ix ix_tup (pv 2) pe_int (fun _ _ => rfl)) pa_nil)) (pa_cons (pe_ix ix_tup (pv 2) pe_int (fun _ _ => rfl)) pa_nil))) pa_nil))))))))
    (pss_one (ps_ret (pv 1))))), ?_⟩
    obtain ⟨a, vs, rfl, ha, hvs⟩ := hv
    have hl : vs.length = is.length := Paired.len hvs
    refine tset_c ?_
    refine tfor (walk_list (K := K) (a := a) (xs := vs)) (fun R r => ⟨_, rfl, a, rfl, ⟨_, .inl (.inl ha)⟩, r⟩)
      (fun i σ H' => ∃ (v1 : V) (o2 o3 : Option V), σ = [some (.ref a), some v1, o2, o3] ∧ Ex H H' ∧ FiveV K H' v1 ((is.take i).foldl fiveItem nothing))
      ⟨_, none, none, rfl, Ex.refl _, ⟨_, rfl, T.nothing H⟩⟩ (fun i σ H' _ p => .inl (.inl (by obtain ⟨_, _, _, _, e, _⟩ := p; exact e _ _ ha))) ?_ ?_
    · rintro i x σ H1 H2 hi ⟨v1, o2, o3, rfl, e, q⟩ ⟨rfl, hx⟩
      obtain ⟨it, hit, rx⟩ := Paired.at hvs hx
      rw [fold_snoc fiveItem nothing hit]
      have rx := rx.mono e
      have hm : it ∈ is := List.mem_of_getElem? hit
      cases it with
      | t s =>
        have ex : x = .str (SX.S s) := rx
        subst ex
        have hs : s.length ≤ 1000 := (hok.ok _ hm).1
        refine ⟨_, rfl, _, _, _, _, _, rfl, .ty _, .base (.str _), kit_str_str, _, rfl, ifT rfl ?_⟩
        refine tfor1 (walk_str (z := SX.S s)) (fun R r => ⟨_, rfl, SX.S s, rfl, r⟩)
          (fun j σ H' => ∃ (v1 : V) (o3 : Option V), σ = [some (.ref a), some v1, some (.str (SX.S s)), o3] ∧ Ex H H' ∧ FiveV K H' v1 ((s.take j).foldl fiveStep ((is.take i).foldl fiveItem nothing)))
          ⟨_, _, rfl, e, q⟩ (fun _ _ _ _ _ => trivial) ?_ ?_
        · rintro j y σ H3 H4 hj ⟨v1, o3, rfl, e3, q3⟩ ⟨rfl, c, hc, rfl⟩
          have hc := str_at hc
          rw [fold_snoc fiveStep _ hc]
          have fin : ∀ (z : V) (H5 : Hp), Ex H4 H5 → FiveV K H5 z (oneFive c) → (sp_joined K) [v1, z] H5 (fun v' H6 => ∃ (v1 : V) (o3 : Option V), [some (V.ref a), some v', some (.str (SX.S s)), some (.str ⟨#[c]⟩)] = [some (.ref a), some v1, some (.str (SX.S s)), o3] ∧ Ex H H6 ∧ FiveV K H6 v1 (fiveStep ((s.take j).foldl fiveStep ((is.take i).foldl fiveItem nothing)) c)) E :=
            fun z H5 e5 qz => ⟨v1, z, _, _, rfl, q3.mono e5, qz, fun v' H6 e6 q6 => ⟨v', _, rfl, (e3.trans e5).trans e6, q6⟩⟩
          refine ⟨_, rfl, _, rfl, rfl, _, rfl, ifD (fun c1 => ?_) fun c1 => ?_⟩
          · have c1 : c = 45 := V_take.mp c1
            exact ⟨_, rfl, five_size, fun p hp => fin _ _ (Ex.new hp) (one_new c1)⟩
          · have c1 : ¬ c = 45 := fun q => c1 (V_take.mpr q)
            exact ⟨five_size, fun p hp => fin _ _ (Ex.new hp) (one_new' c1)⟩
        · rintro σ H3 ⟨v1, o3, rfl, e3, q3⟩
          refine ⟨v1, _, _, rfl, e3, ?_⟩
          rw [fold_all _ _ str_size] at q3
          exact q3
      | r b n =>
        obtain ⟨b0, c0, rfl, hb, hc⟩ := rx
        refine ⟨_, rfl, _, _, _, _, _, rfl, .ty _, .base (.tup hb), kit_tup_str, _, rfl, ifF rfl ?_⟩
        refine ⟨_, rfl, _, rfl, b0, _, _, _, rfl, rfl, .inl (.inl hb), at0, _, b.map Pc.t, rfl, ⟨c0, _, rfl, hc, seqs_its b⟩, deep_down hdp hm, itsOk_body hok hm, fun v3 H3 e3 q3 => ?_⟩
        rw [fiveOf_flat] at q3
        refine ⟨_, rfl, b0, _, _, _, rfl, rfl, .inl (.inl (e3 _ _ hb)), at1, v3, _, n, rfl, q3, fun v4 H4 e4 q4 => ?_⟩
        refine ⟨v1, v4, _, _, rfl, q.mono (e3.trans e4), q4, fun v5 H5 e5 q5 => ?_⟩
        exact ⟨v5, _, _, rfl, ((e.trans e3).trans e4).trans e5, q5⟩
    · rintro σ H1 ⟨v1, o2, o3, rfl, e, q⟩
      refine ⟨_, rfl, k _ _ e ?_⟩
      rw [fold_all _ _ hl] at q
      exact q
theorem c_five_of (T : Tx K mg) (c_joined : C8.Cal P w K mg base 1 "joined" (sp_joined K) []) (c_repeated : C8.Cal P w K mg base 2 "repeated" (sp_repeated K) []) : C8.Cal P w K mg base 4 "five_of" (sp_five_of K 2) [] := by
  have c0 : C8.Cal P w K mg base 2 "five_of" (sp_five_of K 0) [] := by
    obtain ⟨fd, F⟩ := T.d_five_of
    refine cal_never F T.m_five_of (binds_nil (ps := ["items"]) F fun _ _ _ _ _ _ us hl => match us, hl with | [_], _ => rfl) five_of_scope fun vs H Q E h => ?_
    obtain ⟨_, _, _, _, h, _⟩ := h
    exact h
  have c1 := c_five_of_step (d := 0) (L := 2) (by omega) T c0 c_joined c_repeated
  exact c_five_of_step (d := 1) (L := 3) (by omega) T c1 c_joined c_repeated
end
end Fq

set_option Elab.async false
set_option linter.all false
set_option maxRecDepth 100000
set_option maxHeartbeats 4000000
namespace Fq
open PySem PySem.Spec PyProof.Rows L2
open Evl (Ex Ex.refl Ex.trans Ex.new Ex.mut fresh_back ex_l ex_t sq_of st_of)
section
variable {P : Program} {w : World} {K : PySem.W.Frag} {mg : Str → Option Value} {base : Heap}
theorem rows_of_scope : FnScope ["items", "capacity", "mode", "rows", "item", "step", "row"] ["items", "capacity", "mode"] (defScope s_rows_of) := ⟨rfl, rfl, rfl, by decide +kernel, rfl, by decide +kernel, by decide +kernel⟩
theorem c_rows_of_step {d L : Nat} (hL : 3 ≤ L) (T : Tx K mg) (c_identity_rows : C8.Cal P w K mg base 1 "identity_rows" sp_identity_rows []) (c_joined_rows : C8.Cal P w K mg base 2 "joined_rows" sp_joined_rows []) (c_power_rows : C8.Cal P w K mg base 3 "power_rows" sp_power_rows []) (c_row_after : C8.Cal P w K mg base 1 "row_after" sp_row_after []) (c_rows_of : C8.Cal P w K mg base L "rows_of" (sp_rows_of d) []) : C8.Cal P w K mg base (L + 1) "rows_of" (sp_rows_of (d + 1)) [] := by
  obtain ⟨fd, F⟩ := T.d_rows_of
  refine cal_of F T.m_rows_of (binds_nil (ps := ["items", "capacity", "mode"]) F fun _ _ _ _ _ _ us hl => match us, hl with | [_, _, _], _ => rfl) rows_of_scope (fun vs H Q E h => ?_) (fun cdv A outer s H vs Q E hr h => ?_)
  · obtain ⟨v, is, C, m, rfl, _⟩ := h
    rfl
  · have sc := rows_of_scope
    obtain ⟨v, is, C, m, rfl, hv, hdp, hok, hC, k⟩ := h
    refine ⟨_, (pss_cons (ps_set (i := 3) sc.nd rfl (Or.inl rfl) (C8.pe_c c_identity_rows hr (by omega) rfl (pa_cons (pv 1) pa_nil)))
    (pss_cons (ps_for PassesOwn.never rfl (pi_list (pv 0)) (pg_name (i := 4) sc.nd rfl (Or.inl rfl))
    (pss_one (ps_if (pt_val (pe_callB call_isi (by rfl) T.isinstance_ (by decide +kernel) (pa_cons (pv 4) (pa_cons (pe_bltn (v := .ty "str") (u := .type "str") (by rfl) T.str_ (by decide +kernel) rfl) pa_nil))))
      (pss_one (ps_for PassesOwn.never rfl (pi_str (pv 4)) (pg_name (i := 5) sc.nd rfl (Or.inr rfl))
        (pss_one (ps_set (i := 3) sc.nd rfl (Or.inl rfl) (pe_callTy call_tuple_of (by rfl) T.tuple_ (by decide +kernel) (pa_cons (pe_lc (own := [("row", 6)]) (g := gName 6) (tt := tYes) rfl sc.nd (pi_tup (pv 3)) (blkOk_by (N := ["items", "capacity", "mode", "rows", "item", "step", "row"]) (sc := defScope s_rows_of) (by decide +kernel)) (fun _ _ _ _ _ => (pg_name (i := 6) sc.nd rfl (Or.inl rfl))) (fun _ _ _ _ _ => pts_nil) (fun _ _ _ _ _ => (C8.pe_c c_row_after hr (by omega) rfl (pa_cons (pv 6) (pa_cons (pv 5) (pa_cons (pv 1) (pa_cons (pv 2) pa_nil))))))) pa_nil))))))
      (pss_one (ps_set (i := 3) sc.nd rfl (Or.inl rfl) (C8.pe_c c_joined_rows hr (by omega) rfl (pa_cons (pv 3) (pa_cons (C8.pe_c c_power_rows hr (by omega) rfl (pa_cons (C8.pe_c c_rows_of hr (Nat.le_refl _) rfl (pa_cons (pe_ix ix_tup (pv 4) pe_int (fun _ _ => rfl)) (pa_cons (pv 1) (pa_cons (pv 2) pa_nil)))) (pa_cons (pe_ix ix_tup (pv 4) pe_int (fun _ _ => rfl)) pa_nil))) pa_nil))))))))
    (pss_one (ps_ret (pv 3))))), ?_⟩
    obtain ⟨a, vs, rfl, ha, hvs⟩ := hv
    have hl : vs.length = is.length := Paired.len hvs
    refine ⟨_, rfl, C, rfl, by omega, fun v0 H0 e0 q0 => ?_⟩
    have ha0 := e0 _ _ ha
    dsimp only [gName]
    refine tfor (walk_list (K := K) (a := a) (xs := vs)) (fun R r => ⟨_, rfl, a, rfl, ⟨_, .inl (.inl ha0)⟩, r⟩)
      (fun i σ H' => ∃ (v1 : V) (o2 o3 : Option V), σ = [some (.ref a), some (.int (C : Int)), some (.str m.s), some v1, o2, o3, none] ∧ Ex H H' ∧ TabV H' v1 ((is.take i).foldl (rowsItem C m) (identityRows C)))
      ⟨_, none, none, rfl, e0, q0⟩ (fun i σ H' _ p => .inl (.inl (by obtain ⟨_, _, _, _, e, _⟩ := p; exact e _ _ ha))) ?_ ?_
    · rintro i x σ H1 H2 hi ⟨v1, o2, o3, rfl, e, q⟩ ⟨rfl, hx⟩
      obtain ⟨it, hit, rx⟩ := Paired.at hvs hx
      rw [fold_snoc (rowsItem C m) (identityRows C) hit]
      have ok1 : OkRows C ((is.take i).foldl (rowsItem C m) (identityRows C)) := okRows_items hC.1 _ (okRows_identity C)
      have rx := rx.mono e
      have hm : it ∈ is := List.mem_of_getElem? hit
      cases it with
      | t s =>
        have ex : x = .str (SX.S s) := rx
        subst ex
        have hs : s.length ≤ 1000 := (hok.ok _ hm).1
        refine ⟨_, rfl, _, _, _, _, _, rfl, .ty _, .base (.str _), kit_str_str, _, rfl, ifT rfl ?_⟩
        refine tfor1 (walk_str (z := SX.S s)) (fun R r => ⟨_, rfl, SX.S s, rfl, r⟩)
          (fun j σ H' => ∃ (v1 : V) (o3 : Option V), σ = [some (.ref a), some (.int (C : Int)), some (.str m.s), some v1, some (.str (SX.S s)), o3, none] ∧ Ex H H' ∧ TabV H' v1 ((s.take j).foldl (stepRows C m) ((is.take i).foldl (rowsItem C m) (identityRows C))))
          ⟨_, _, rfl, e, q⟩ (fun _ _ _ _ _ => trivial) ?_ ?_
        · rintro j y σ H3 H4 hj ⟨v1, o3, rfl, e3, q3⟩ ⟨rfl, c, hc, rfl⟩
          have hc := str_at hc
          rw [fold_snoc (stepRows C m) _ hc]
          have ok2 : OkRows C ((s.take j).foldl (stepRows C m) ((is.take i).foldl (rowsItem C m) (identityRows C))) := okRows_steps hC.1 _ ok1
          generalize (s.take j).foldl (stepRows C m) ((is.take i).foldl (rowsItem C m) (identityRows C)) = g at q3 ok2
          obtain ⟨p, ws, rfl, hp, hws⟩ := q3
          have hl2 : ws.length = g.length := Paired.len hws
          refine ⟨_, rfl, p, rfl, ⟨_, .inl (.inl hp)⟩, fun D hD => ?_⟩
          refine lc_gen (walk_tup (K := K) (a := p) (xs := ws)) hD (by rw [hl2, ok2.len]; omega) (fun H' e => .inl (.inl (e _ _ hp))) (fun i H x H' y => by rw [y.1]; exact Ex.refl _) (fun _ => true) (fun i y H => ∃ r, g[i]? = some r ∧ RowV H y (rowAfter r c C m)) (fun i y H H' e q => by
            obtain ⟨r, q1, q2⟩ := q
            exact ⟨r, q1, q2.monoT e⟩) ?_ fun ys H' e' hy hp2 => ?_
          · intro i x H1 H2 Acc Nn hi e' e2 y ka kn
            obtain ⟨rfl, hx⟩ := y
            obtain ⟨r, hr, rx⟩ := Paired.at hws hx
            refine ⟨rfl, tyes ?_⟩
            refine ⟨_, rfl, _, rfl, _, rfl, _, rfl, x, r, c, C, m, rfl, rx.mono e', fun k w hk => ?_, fun v' H3 e3 q => ka rfl _ _ e3 ⟨r, hr, q⟩⟩
            have := ok2.ok r (List.mem_of_getElem? hr) k w hk
            omega
          · refine ⟨D, ys, rfl, .inl ⟨.inl (.inl hy), fun l hl3 => ⟨_, _, rfl, Ex.push (e3.trans e') hl3, ⟨l, ys, rfl, upd_same, ?_⟩⟩⟩⟩
            refine Paired.of_get ?_ fun i y hy2 => ?_
            · rw [← Paired.len hp2]
              simp only [stepRows, List.length_map]
              rw [filt_all, List.length_range, hl2]
            · obtain ⟨j, hj, r, q1, q2⟩ := Paired.at' hp2 hy2
              rw [filt_all] at hj
              have ej := range_at hj
              subst ej
              exact ⟨_, by simp only [stepRows, List.getElem?_map, q1]; rfl, q2.mono (Ex.new hl3)⟩
        · rintro σ H3 ⟨v1, o3, rfl, e3, q3⟩
          refine ⟨v1, _, _, rfl, e3, ?_⟩
          rw [fold_all _ _ str_size] at q3
          exact q3
      | r b n =>
        obtain ⟨b0, c0, rfl, hb, hc⟩ := rx
        refine ⟨_, rfl, _, _, _, _, _, rfl, .ty _, .base (.tup hb), kit_tup_str, _, rfl, ifF rfl ?_⟩
        refine ⟨_, rfl, _, rfl, b0, _, _, _, rfl, rfl, .inl (.inl hb), at0, _, rfl, _, rfl, _, b.map Pc.t, C, m, rfl, ⟨c0, _, rfl, hc, seqs_its b⟩, deep_down hdp hm, itsOk_body hok hm, hC, fun v3 H3 e3 q3 => ?_⟩
        rw [rowsOf_flat] at q3
        refine ⟨_, rfl, b0, _, _, _, rfl, rfl, .inl (.inl (e3 _ _ hb)), at1, v3, _, C, n, rfl, q3, okRows_flat hC.1 b, hC.2, fun v4 H4 e4 q4 => ?_⟩
        refine ⟨v1, v4, _, _, C, rfl, q.mono (e3.trans e4), q4, ok1, okRows_power (okRows_flat hC.1 b) n, hC.2, fun v5 H5 e5 q5 => ?_⟩
        exact ⟨v5, _, _, rfl, ((e.trans e3).trans e4).trans e5, q5⟩
    · rintro σ H1 ⟨v1, o2, o3, rfl, e, q⟩
      refine ⟨_, rfl, k _ _ e ?_⟩
      rw [fold_all _ _ hl] at q
      exact q
theorem c_rows_of1 (T : Tx K mg) (c_identity_rows : C8.Cal P w K mg base 1 "identity_rows" sp_identity_rows []) (c_joined_rows : C8.Cal P w K mg base 2 "joined_rows" sp_joined_rows []) (c_power_rows : C8.Cal P w K mg base 3 "power_rows" sp_power_rows []) (c_row_after : C8.Cal P w K mg base 1 "row_after" sp_row_after []) : C8.Cal P w K mg base 4 "rows_of" (sp_rows_of 1) [] := by
  have c0 : C8.Cal P w K mg base 3 "rows_of" (sp_rows_of 0) [] := by
    obtain ⟨fd, F⟩ := T.d_rows_of
    refine cal_never F T.m_rows_of (binds_nil (ps := ["items", "capacity", "mode"]) F fun _ _ _ _ _ _ us hl => match us, hl with | [_, _, _], _ => rfl) rows_of_scope fun vs H Q E h => ?_
    obtain ⟨_, _, _, _, _, _, h, _⟩ := h
    exact h
  exact c_rows_of_step (d := 0) (L := 3) (by omega) T c_identity_rows c_joined_rows c_power_rows c_row_after c0
theorem c_rows_of (T : Tx K mg) (c_identity_rows : C8.Cal P w K mg base 1 "identity_rows" sp_identity_rows []) (c_joined_rows : C8.Cal P w K mg base 2 "joined_rows" sp_joined_rows []) (c_power_rows : C8.Cal P w K mg base 3 "power_rows" sp_power_rows []) (c_row_after : C8.Cal P w K mg base 1 "row_after" sp_row_after []) : C8.Cal P w K mg base 5 "rows_of" (sp_rows_of 2) [] :=
  c_rows_of_step (d := 1) (L := 4) (by omega) T c_identity_rows c_joined_rows c_power_rows c_row_after (c_rows_of1 T c_identity_rows c_joined_rows c_power_rows c_row_after)
end
end Fq

set_option Elab.async false
set_option linter.all false
set_option maxRecDepth 100000
set_option maxHeartbeats 4000000
namespace Fq
open PySem PySem.Spec PyProof.Rows L2
open Evl (Ex Ex.refl Ex.trans Ex.new Ex.mut fresh_back ex_l ex_t sq_of st_of)
section
variable {P : Program} {w : World} {K : PySem.W.Frag} {mg : Str → Option Value} {base : Heap}
theorem kitA_tup {K : PySem.W.Frag} : PySem.W.kitAny K (.type "tuple") [.type "list", .type "tuple"] = some true := by first | rfl | decide +kernel
theorem kitA_lst {K : PySem.W.Frag} : PySem.W.kitAny K (.type "list") [.type "list", .type "tuple"] = some true := by first | rfl | decide +kernel
/-- tuples stand -/
def ExU (H H' : Hp) : Prop := ∀ b xs, H b = some (.tup xs) → H' b = some (.tup xs)
theorem RowV.u {H H' : Hp} {v : V} {r : Row} (e : ExU H H') (h : RowV H v r) : RowV H' v r := by
  cases r with
  | none => exact h
  | some r =>
    obtain ⟨k, w⟩ := r
    obtain ⟨a, h1, h2⟩ := h
    exact ⟨a, h1, e a _ h2⟩
theorem TabV.u {H H' : Hp} {v : V} {rs : List Row} (e : ExU H H') (h : TabV H v rs) : TabV H' v rs := by
  obtain ⟨a, vs, h1, h2, h3⟩ := h
  exact ⟨a, vs, h1, e a _ h2, Paired.mapP h3 fun _ _ q => q.u e⟩
theorem EffV.mono {C : Addr} {H H' : Hp} {v : V} {rs : List Row} (e : Ex H H') (h : EffV C H v rs) : EffV C H' v rs := by
  obtain ⟨a, dx, t, h1, h2, h3⟩ := h
  exact ⟨a, dx, t, h1, e a _ h2, h3.mono e⟩
/-- what is wanted of the class: made, compared, read -/
structure EffC (P : Program) (w : World) (K : PySem.W.Frag) (mg : Str → Option Value) (base : Heap) : Prop where
  mak : C8.Mak P w K mg base 6 "Effect" (EC K) (sp_init K) []
  eq : ∃ fd ps, FnOk P w K mg base C8.CX0 1 (He.ma K (EC K) "__eq__") fd ps (sp_eq K) ∧ Binds K fd ps []
  rows : ∃ fd ps, FnOk P w K mg base C8.CX0 1 (He5.wf K (EC K) "property" "rows") fd ps (getSp (EC K) "all_rows") ∧ Binds K fd ps []
theorem init_scope : FnScope ["self", "capacity", "rows", "length", "row"] ["self", "capacity", "rows"] (defScope s_init) := ⟨rfl, rfl, rfl, by decide +kernel, rfl, by decide +kernel, by decide +kernel⟩
theorem fn_init (T : Tx K mg) (c_check_capacity : C8.Cal P w K mg base 3 "check_capacity" sp_check_capacity []) (c_is_row : C8.Cal P w K mg base 5 "is_row" sp_is_row []) {fd : FuncData}
    (F : FunD K "__init__" "Effect.__init__" (defArgs s_init) (defBody s_init) (defScope s_init) [] [] (He.ma K (EC K) "__init__") fd) : FnOk P w K mg base C8.CX0 6 (He.ma K (EC K) "__init__") fd ["self", "capacity", "rows"] (sp_init K) := by
  refine F.ok init_scope (fun vs H Q E h => ?_) (fun cdv A outer s H vs Q E hr h => ?_)
  · obtain ⟨x, dx, v, rows, C, rfl, _⟩ := h
    rfl
  · have sc := init_scope
    obtain ⟨x, dx, v, rows, C, rfl, hx, hv, hg, hC, k⟩ := h
    rcases hv with ⟨a, vs, rfl, ha, hvs⟩ | ⟨a, vs, rfl, ha, hvs⟩
    · refine ⟨_, PSs.nox (pss_cons (ps_expr (C8.pe_c c_check_capacity hr (by decide) rfl (pa_cons (pv 1) pa_nil)))
    (pss_cons (ps_if (PW.pt (pw_or (pt_not (pt_val (pe_callB call_isiT (by rfl) T.isinstance_ (by decide +kernel) (pa_cons (pv 2) (pa_cons (pe_tup (pa_cons (pe_bltn (v := .ty "list") (u := .type "list") (by rfl) T.list_ (by decide +kernel) rfl) (pa_cons (pe_bltn (v := .ty "tuple") (u := .type "tuple") (by rfl) T.tuple_ (by decide +kernel) rfl) pa_nil))) pa_nil))))) (pw_or1 (pt_cmpR op_ne (pe_callB call_len (by rfl) T.len_ (by decide +kernel) (pa_cons (pv 2) pa_nil)) (pe_op op_add (pv 1) pe_int) (nomark _)))))
    pss_never
    pss_nil)
    (pss_cons (ps_for PassesOwn.never rfl (pi_enumT rfl T.enumerate_ (pa_cons (pv 2) pa_nil)) (pg_tup rfl (pgs_cons (pg_name (i := 3) sc.nd rfl (Or.inl rfl)) (pgs_cons (pg_name (i := 4) sc.nd rfl (Or.inl rfl)) pgs_nil)))
    (pss_one (ps_if (pt_not (pt_val (C8.pe_c c_is_row hr (by decide) rfl (pa_cons (pv 4) (pa_cons (pv 3) (pa_cons (pv 1) pa_nil))))))
      pss_never
      pss_nil)))
    (pss_one (ps_fld (pv 0) (pe_callTy call_tuple_of (by rfl) T.tuple_ (by decide +kernel) (pa_cons (pv 2) pa_nil)) rfl))))), ?_⟩
      have hl : vs.length = rows.length := Paired.len hvs
      refine ⟨_, rfl, (C : Int), rfl, by omega, fun H1 e1 => ?_⟩
      refine ⟨_, rfl, two_size, fun p hp => ?_⟩
      have e1p := Ex.push (o := .tup [.ty "list", .ty "tuple"]) e1 hp
      refine ⟨_, p, _, _, _, _, rfl, upd_same, .cons (.ty _) (.cons (.ty _) .nil), .base (.tup (e1p _ _ ha)), kitA_tup, _, rfl, ifF rfl ?_⟩
      have e2 := e1p
      refine ⟨_, rfl, _, vs.length, rfl, .inr ⟨vs, .inl (.inl (e2 _ _ ha)), rfl⟩, _, rfl, _, _, rfl, rfl, rfl, _, rfl, ifF ?_ ?_⟩
      · rw [hl, hg.len, decide_eq_true]
        · rfl
        · exact congrArg V.int (by omega)
      dsimp only [tNext]
      refine tfor (walk_enumT (a := a) (xs := vs)) (fun R r => ⟨_, rfl, a, vs, rfl, e2 _ _ ha, r⟩)
        (fun i σ H' => ∃ o3 o4 : Option V, σ = [some (.ref x), some (.int (C : Int)), some (.ref a), o3, o4] ∧ Ex H H')
        ⟨none, none, rfl, e2⟩ (fun i σ H' _ p => by obtain ⟨_, _, _, e⟩ := p; exact e _ _ ha) ?_ ?_
      · rintro i y σ H1 H2 hi ⟨o3, o4, rfl, e⟩ ⟨q, y1, y2, rfl, hq, rfl, hy1, hy2⟩
        have ey : y1 = .int (i : Int) := (Option.some.inj hy1).symm
        subst ey
        obtain ⟨r, hr0, rx⟩ := Paired.at hvs hy2
        have e3 : Ex H (upd H1 q (.tup [.int (i : Int), y2])) := Ex.push e hq
        refine ⟨q, _, rfl, .inl (.inl upd_same), rfl, _, _, rfl, _, _, rfl, rfl, ?_⟩
        refine ⟨_, rfl, _, rfl, _, rfl, y2, r, i, C, rfl, rx.mono e3, hg.ok _ _ hr0, hC, fun H4 e4 => ?_⟩
        exact ⟨_, rfl, ifF rfl ⟨_, _, rfl, e3.trans e4⟩⟩
      · rintro σ H3 ⟨o3, o4, rfl, e⟩
        refine ⟨_, rfl, a, vs, rfl, .inr ⟨.inl (.inl (e _ _ ha)), _, rfl, x, EC K, dx, [], rfl, e _ _ hx, T.cls, T.noat, by decide, ?_⟩⟩
        refine k _ (.ref a) (fun b o hb q => by rw [upd_ne hb]; exact e _ _ q) upd_same (TabV.u (H := H) (fun b xs q => ?_) ⟨a, vs, rfl, ha, hvs⟩)
        have hb : b ≠ x := fun z => by subst z; rw [hx] at q; cases q
        rw [upd_ne hb]
        exact e _ _ q
    · refine ⟨_, PSs.nox (pss_cons (ps_expr (C8.pe_c c_check_capacity hr (by decide) rfl (pa_cons (pv 1) pa_nil)))
    (pss_cons (ps_if (PW.pt (pw_or (pt_not (pt_val (pe_callB call_isiT (by rfl) T.isinstance_ (by decide +kernel) (pa_cons (pv 2) (pa_cons (pe_tup (pa_cons (pe_bltn (v := .ty "list") (u := .type "list") (by rfl) T.list_ (by decide +kernel) rfl) (pa_cons (pe_bltn (v := .ty "tuple") (u := .type "tuple") (by rfl) T.tuple_ (by decide +kernel) rfl) pa_nil))) pa_nil))))) (pw_or1 (pt_cmpR op_ne (pe_callB call_len (by rfl) T.len_ (by decide +kernel) (pa_cons (pv 2) pa_nil)) (pe_op op_add (pv 1) pe_int) (nomark _)))))
    pss_never
    pss_nil)
    (pss_cons (ps_for PassesOwn.never rfl (pi_enum rfl T.enumerate_ (pa_cons (pv 2) pa_nil)) (pg_tup rfl (pgs_cons (pg_name (i := 3) sc.nd rfl (Or.inl rfl)) (pgs_cons (pg_name (i := 4) sc.nd rfl (Or.inl rfl)) pgs_nil)))
    (pss_one (ps_if (pt_not (pt_val (C8.pe_c c_is_row hr (by decide) rfl (pa_cons (pv 4) (pa_cons (pv 3) (pa_cons (pv 1) pa_nil))))))
      pss_never
      pss_nil)))
    (pss_one (ps_fld (pv 0) (pe_callTy call_tuple_of (by rfl) T.tuple_ (by decide +kernel) (pa_cons (pv 2) pa_nil)) rfl))))), ?_⟩
      have hl : vs.length = rows.length := Paired.len hvs
      refine ⟨_, rfl, (C : Int), rfl, by omega, fun H1 e1 => ?_⟩
      refine ⟨_, rfl, two_size, fun p hp => ?_⟩
      have e1p := Ex.push (o := .tup [.ty "list", .ty "tuple"]) e1 hp
      refine ⟨_, p, _, _, _, _, rfl, upd_same, .cons (.ty _) (.cons (.ty _) .nil), .base (.lst (e1p _ _ ha)), kitA_lst, _, rfl, ifF rfl ?_⟩
      have e2 := e1p
      refine ⟨_, rfl, _, vs.length, rfl, .inl ⟨vs, .inl (.inl (e2 _ _ ha)), rfl⟩, _, rfl, _, _, rfl, rfl, rfl, _, rfl, ifF ?_ ?_⟩
      · rw [hl, hg.len, decide_eq_true]
        · rfl
        · exact congrArg V.int (by omega)
      dsimp only [tNext]
      refine tfor (walk_enum (K := K) (a := a) (xs := vs)) (fun R r => ⟨_, rfl, a, vs, rfl, .inl (.inl (e2 _ _ ha)), r⟩)
        (fun i σ H' => ∃ o3 o4 : Option V, σ = [some (.ref x), some (.int (C : Int)), some (.ref a), o3, o4] ∧ Ex H H')
        ⟨none, none, rfl, e2⟩ (fun i σ H' _ p => .inl (.inl (by obtain ⟨_, _, _, e⟩ := p; exact e _ _ ha))) ?_ ?_
      · rintro i y σ H1 H2 hi ⟨o3, o4, rfl, e⟩ ⟨q, y1, y2, rfl, hq, rfl, hy1, hy2⟩
        have ey : y1 = .int (i : Int) := (Option.some.inj hy1).symm
        subst ey
        obtain ⟨r, hr0, rx⟩ := Paired.at hvs hy2
        have e3 : Ex H (upd H1 q (.tup [.int (i : Int), y2])) := Ex.push e hq
        refine ⟨q, _, rfl, .inl (.inl upd_same), rfl, _, _, rfl, _, _, rfl, rfl, ?_⟩
        refine ⟨_, rfl, _, rfl, _, rfl, y2, r, i, C, rfl, rx.mono e3, hg.ok _ _ hr0, hC, fun H4 e4 => ?_⟩
        exact ⟨_, rfl, ifF rfl ⟨_, _, rfl, e3.trans e4⟩⟩
      · rintro σ H3 ⟨o3, o4, rfl, e⟩
        refine ⟨_, rfl, a, vs, rfl, .inl ⟨.inl (.inl (e _ _ ha)), fun l hl => ⟨_, rfl, x, EC K, dx, [], rfl, Ex.new hl _ _ (e _ _ hx), T.cls, T.noat, by decide, ?_⟩⟩⟩
        have e3 : Ex H (upd H3 l (.tup vs)) := Ex.push e hl
        have hlx : l ≠ x := fun z => by subst z; rw [e _ _ hx] at hl; cases hl
        refine k _ (.ref l) (fun b o hb q => by rw [upd_ne hb]; exact e3 _ _ q) upd_same ⟨l, vs, rfl, by rw [upd_ne hlx]; exact upd_same, Paired.mapP hvs fun y r q => RowV.u (H := H) (fun b xs q => ?_) q⟩
        have hb : b ≠ x := fun z => by subst z; rw [hx] at q; cases q
        rw [upd_ne hb]
        exact e3 _ _ q
theorem eq_scope : FnScope ["self", "other"] ["self", "other"] (defScope s_eq) := ⟨rfl, rfl, rfl, by decide +kernel, rfl, by decide +kernel, by decide +kernel⟩
theorem fn_eq (T : Tx K mg) {fd : FuncData}
    (F : FunD K "__eq__" "Effect.__eq__" (defArgs s_eq) (defBody s_eq) (defScope s_eq) [] [] (He.ma K (EC K) "__eq__") fd) : FnOk P w K mg base C8.CX0 1 (He.ma K (EC K) "__eq__") fd ["self", "other"] (sp_eq K) := by
  refine F.ok eq_scope (fun vs H Q E h => ?_) (fun cdv A outer s H vs Q E hr h => ?_)
  · obtain ⟨v, u, a, b, rfl, _⟩ := h
    rfl
  · have sc := eq_scope
    obtain ⟨v, u, a, b, rfl, ⟨x, dx, t, rfl, hx, ht⟩, ⟨y, dy, t', rfl, hy, ht'⟩, ha, hb, k⟩ := h
    refine ⟨_, PSs.nox (pss_one (ps_ret (pe_and (pe_callB (C8.call_isC T.isC) (by rfl) T.isinstance_ (by decide +kernel) (pa_cons (pv 1) (pa_cons (pe_glob (v := .ref (He.ga K "Effect")) rfl T.Effect_ rfl) pa_nil))) (pe_one (pe_cmpR (op_eqD hr.units) (pe_fld (pv 0) rfl) (pe_fld (pv 1) rfl) (nomark _)))))), ?_⟩
    refine ⟨_, rfl, y, dy, _, rfl, hy, _, rfl, ifT rfl ?_⟩
    refine ⟨_, rfl, x, _, dx, _, t, rfl, hx, T.cls, T.noat, rfl, _, rfl, y, _, dy, _, t', rfl, hy, T.cls, T.noat, rfl, ?_⟩
    refine ⟨_, _, dp_tab ht, dp_tab ht', shaped_tab ha, shaped_tab hb, ?_⟩
    rw [eqv_tab]
    exact k _ (Ex.refl _)
theorem rows_scope : FnScope ["self"] ["self"] (defScope s_rows) := ⟨rfl, rfl, rfl, by decide +kernel, rfl, by decide +kernel, by decide +kernel⟩
theorem fn_rows (T : Tx K mg) {fd : FuncData}
    (F : FunD K "rows" "Effect.rows" (defArgs s_rows) (defBody s_rows) (defScope s_rows) [] [] (He5.wf K (EC K) "property" "rows") fd) : FnOk P w K mg base C8.CX0 1 (He5.wf K (EC K) "property" "rows") fd ["self"] (getSp (EC K) "all_rows") := by
  refine F.ok rows_scope (fun vs H Q E h => ?_) (fun cdv A outer s H vs Q E hr h => ?_)
  · obtain ⟨a, dx, fs, v, rfl, _⟩ := h
    rfl
  · have sc := rows_scope
    obtain ⟨a, dx, fs, v, rfl, ha, hl, k⟩ := h
    refine ⟨_, PSs.nox (pss_one (ps_ret (pe_fld (pv 0) rfl))), ?_⟩
    exact ⟨_, rfl, a, _, dx, fs, v, rfl, ha, T.cls, T.noat, hl, k⟩
theorem effC (T : Tx K mg) (c_check_capacity : C8.Cal P w K mg base 3 "check_capacity" sp_check_capacity []) (c_is_row : C8.Cal P w K mg base 5 "is_row" sp_is_row []) : EffC P w K mg base := by
  obtain ⟨f1, F1⟩ := T.d_init
  obtain ⟨f2, F2⟩ := T.d_eq
  obtain ⟨f3, F3⟩ := T.d_rows
  refine ⟨⟨_, f1, ["self", "capacity", "rows"], [], T.mkr, fn_init T c_check_capacity c_is_row F1, T.Effect_, F1.bindsN fun _ _ _ _ _ _ us hl => ?_, .nil⟩, ⟨f2, ["self", "other"], fn_eq T F2, F2.bindsN fun _ _ _ _ _ _ us hl => ?_⟩, ⟨f3, ["self"], fn_rows T F3, F3.bindsN fun _ _ _ _ _ _ us hl => ?_⟩⟩
  · exact match us, hl with | [_, _, _], _ => rfl
  · exact match us, hl with | [_, _], _ => rfl
  · exact match us, hl with | [_], _ => rfl
end
end Fq

set_option Elab.async false
set_option linter.all false
set_option maxRecDepth 100000
set_option maxHeartbeats 4000000
/-! The promises of the law's own helpers. -/
namespace Fq
open PySem PySem.Spec PyProof.Rows L2
open Evl (Ex Ex.refl Ex.trans Ex.new Ex.mut fresh_back ex_l ex_t sq_of st_of)
/-- all but p stands -/
def ExB (p : Addr) (H H' : Hp) : Prop := ∀ b o, b ≠ p → H b = some o → H' b = some o
theorem ExB.refl {p : Addr} (H : Hp) : ExB p H H := fun _ _ _ h => h
theorem ExB.trans {p : Addr} {H H1 H2 : Hp} (a : ExB p H H1) (b : ExB p H1 H2) : ExB p H H2 := fun x o n h => b x o n (a x o n h)
theorem ExB.of {p : Addr} {H H' : Hp} (e : Ex H H') : ExB p H H' := fun b o _ h => e b o h
theorem ExB.upd {p : Addr} {H : Hp} {o : HO} : ExB p H (upd H p o) := fun b u n h => by rw [upd_ne n]; exact h
/-- the pool: two ints, the second below 2147483647 -/
def PoolV (H : Hp) (p : Addr) : Prop := ∃ b s : Int, H p = some (.lst [.int b, .int s]) ∧ 0 ≤ b ∧ 0 ≤ s ∧ s < 2147483647
theorem PoolV.mono {H H' : Hp} {p : Addr} (e : Ex H H') (h : PoolV H p) : PoolV H' p := by
  obtain ⟨b, s, h1, h2⟩ := h
  exact ⟨b, s, e _ _ h1, h2⟩
def sp_law_pool (K : PySem.W.Frag) : Sp := fun vs H Q _ => ∃ (a : Addr) (ns : List Int) (k : Int), vs = [.ref a, .int k] ∧ SqL K H a (ns.map V.int) ∧ ns.length ≤ 63 ∧ (0 ≤ k ∧ k ≤ 10) ∧ ∀ p H', Ex H H' → H p = none → PoolV H' p → Q (.ref p) H'
def sp_law_take : Sp := fun vs H Q _ => ∃ (p : Addr) (bd : Int), vs = [.ref p, .int bd] ∧ PoolV H p ∧ 1 ≤ bd ∧ bd ≤ 10 ^ 30 ∧ ∀ n H', ExB p H H' → PoolV H' p → 0 ≤ n → n < bd → Q (.int n) H'
def sp_law_steps : Sp := fun vs H Q _ => ∃ (p : Addr) (most : Nat) (L : List Nat), vs = [.ref p, .int (most : Int), .str (SX.S L)] ∧ PoolV H p ∧ most ≤ 1000 ∧ (∀ c ∈ L, Letter c) ∧ L.length ≤ 1000 ∧ ∀ t H', ExB p H H' → PoolV H' p → t.length ≤ most → (∀ c ∈ t, Step c) → Q (.str (SX.S t)) H'
def sp_law_result : Sp := fun vs H Q _ => ∃ (v : V) (rows : List Row) (q : List Nat) (C : Nat), vs = [v, .str (SX.S q)] ∧ TabV H v rows ∧ GoodRows C rows ∧ C ≤ 100 ∧ q.length ≤ C ∧ ∀ H', Ex H H' → Q (optV (resultOf rows q)) H'
def sp_law_tests : Sp := fun vs H Q _ => ∃ C : Nat, vs = [.int (C : Int)] ∧ 1 ≤ C ∧ C ≤ 100 ∧ ∀ p H', Ex H H' → H' p = some (.lst ((tests C).map fun q => V.str (SX.S q))) → Q (.ref p) H'
def sp_law_other : Sp := fun vs H Q _ => ∃ (v : V) (rows : List Row) (at_ C : Nat), vs = [v, .int (at_ : Int)] ∧ TabV H v rows ∧ GoodRows C rows ∧ C ≤ 100 ∧ at_ ≤ C ∧ ∀ v' H', Ex H H' → TabV H' v' (other rows at_) → Q v' H'
def sp_law_telling : Sp := fun vs H Q _ => ∃ (p : Prg) (m : Mode) (c d : Nat), vs = [.str (SX.S p.text), .str m.s, .int (c : Int), .int (d : Int)] ∧ p.Ok ∧ (1 ≤ c ∧ c ≤ 100) ∧ (1 ≤ d ∧ d ≤ 100) ∧ ∀ v' H', Ex H H' → PairV H' v' (some (telling p.its m c d)) → Q v' H'
def sp_law_largest_right : Sp := fun vs H Q _ => vs = [] ∧ ∀ H', Ex H H' → Q (.bl true) H'
/-- a fact holds at a capacity -/
def factGood (is : List Pc) (C : Nat) (m : Mode) (fs : List Fact) : Prop := ∀ f ∈ fs, f.1.length ≤ C ∧ resultOf (rowsOf is C m) f.1 = f.2
instance (is : List Pc) (C : Nat) (m : Mode) (fs : List Fact) : Decidable (factGood is C m fs) := inferInstanceAs (Decidable (∀ f ∈ fs, _))
def sp_law_sizes_right : Sp := fun vs H Q _ => ∃ (p : Prg) (m : Mode) (v : V) (fs : List Fact) (a : Addr) (sz : List Nat), vs = [.str (SX.S p.text), .str m.s, v, .ref a] ∧ p.Ok ∧ FactsV H v fs ∧ (∀ f ∈ fs, GoodFact f) ∧ fs.length ≤ 1000 ∧ H a = some (.lst (sz.map fun n => V.int (n : Nat))) ∧
  sz.length ≤ 1000 ∧ (∀ n ∈ sz, 1 ≤ n ∧ n ≤ 100) ∧ (∀ C, 1 ≤ C → C ≤ 100 → (C ∈ sz ↔ factGood p.its C m fs)) ∧ ∀ H', Ex H H' → Q (.bl true) H'
end Fq

set_option Elab.async false
set_option linter.all false
set_option maxRecDepth 100000
set_option maxHeartbeats 4000000
namespace Fq
open PySem PySem.Spec PyProof.Rows L2
open Evl (Ex Ex.refl Ex.trans Ex.new Ex.mut fresh_back ex_l ex_t sq_of st_of)
section
variable {P : Program} {w : World} {K : PySem.W.Frag} {mg : Str → Option Value} {base : Heap}
theorem span_of_scope : FnScope ["text", "start", "characters", "end"] ["text", "start", "characters"] (defScope s_span_of) := ⟨rfl, rfl, rfl, by decide +kernel, rfl, by decide +kernel, by decide +kernel⟩
theorem c_span_of (T : Tx K mg)  : C8.Cal P w K mg base 1 "span_of" sp_span_of [] := by
  obtain ⟨fd, F⟩ := T.d_span_of
  refine cal_of F T.m_span_of (binds_nil (ps := ["text", "start", "characters"]) F fun _ _ _ _ _ _ us hl => match us, hl with | [_, _, _], _ => rfl) span_of_scope (fun vs H Q E h => ?_) (fun cdv A outer s H vs Q E hr h => ?_)
  · obtain ⟨t, cs, i, rfl, _⟩ := h
    rfl
  · have sc := span_of_scope
    obtain ⟨t, cs, i, rfl, hi, hl, k⟩ := h
    refine ⟨_, (pss_cons (ps_set (i := 3) sc.nd rfl (Or.inl rfl) (pv 1))
    (pss_cons (ps_while PassesOwn.never (PW.pt (pw_and (pt_cmpR op_lt (pv 3) (pe_callB call_len (by rfl) T.len_ (by decide +kernel) (pa_cons (pv 0) pa_nil)) (nomark _)) (pw_and1 (pt_cmpR op_in_sign (pe_ix ix_str (pv 0) (pv 3) (fun _ _ => rfl)) (pv 2) rfl))))
    (pss_one (ps_aug (i := 3) sc.nd rfl (Or.inl rfl) pe_int ip_add)))
    (pss_one (ps_ret (pv 3))))), ?_⟩
    dsimp only
    refine ⟨_, rfl, ?_⟩
    refine ⟨fun m σ H' => ∃ e : Nat, m = t.length - e ∧ σ = [some (.str (SX.S t)), some (.int (i : Int)), some (.str (SX.S cs)), some (.int (e : Int))] ∧ Ex H H' ∧ i ≤ e ∧ e ≤ t.length ∧ spanEnd t e cs = spanEnd t i cs,
      ⟨_, i, rfl, rfl, Ex.refl _, Nat.le_refl _, hi, rfl⟩, ?_⟩
    rintro m σ H' ⟨e, rfl, rfl, ex, h1, h2, h3⟩
    have stop : (t.drop e).takeWhile (fun c => decide (c ∈ cs)) = [] → Q (.int (e : Int)) H' := fun q => by
      have q2 := k _ ex
      rw [← h3] at q2
      unfold spanEnd at q2
      rw [q] at q2
      exact q2
    refine ⟨_, rfl, _, rfl, _, _, rfl, ⟨Sle (by omega), rfl⟩, _, _, rfl, rfl, _, rfl, ifD (fun c1 => ?_) fun c1 => ?_⟩
    · have c1 : e < t.length := by rw [Slen] at c1; omega
      have hc : t[e]? = some t[e] := List.getElem?_eq_getElem c1
      refine ⟨_, rfl, _, rfl, _, _, _, rfl, rfl, Sle (by omega), S_at rfl hc, _, rfl, t[e], SX.S cs, rfl, rfl, _, rfl, ifD (fun c2 => ?_) fun c2 => ?_⟩
      · have c2 : t[e] ∈ cs := by simpa using c2
        refine ⟨fun σ' H2 => ∃ e' : Nat, t.length - (e + 1) = t.length - e' ∧ σ' = [some (.str (SX.S t)), some (.int (i : Int)), some (.str (SX.S cs)), some (.int (e' : Int))] ∧ Ex H H2 ∧ i ≤ e' ∧ e' ≤ t.length ∧ spanEnd t e' cs = spanEnd t i cs, fun σ' H2 q => ⟨t.length - (e + 1), by omega, q⟩, ?_⟩
        refine ⟨_, rfl, _, _, rfl, rfl, e + 1, rfl, by rw [show ((e + 1 : Nat) : Int) = (e : Int) + 1 by omega]; rfl, ex, by omega, c1, ?_⟩
        rw [← h3]
        unfold spanEnd
        rw [List.drop_eq_getElem_cons c1, List.takeWhile_cons_of_pos (p := fun c => decide (c ∈ cs)) (decide_eq_true c2), List.length_cons]
        omega
      · have c2 : ¬ t[e] ∈ cs := by simpa using c2
        refine ⟨_, rfl, stop ?_⟩
        rw [List.drop_eq_getElem_cons c1, List.takeWhile_cons_of_neg (p := fun c => decide (c ∈ cs)) (by simpa using c2)]
    · have c1 : t.length ≤ e := by rw [Slen] at c1; omega
      refine ⟨_, rfl, stop ?_⟩
      rw [List.drop_eq_nil_of_le c1]
      rfl
theorem is_count_scope : FnScope ["digits"] ["digits"] (defScope s_is_count) := ⟨rfl, rfl, rfl, by decide +kernel, rfl, by decide +kernel, by decide +kernel⟩
theorem c_is_count (T : Tx K mg)  : C8.Cal P w K mg base 1 "is_count" sp_is_count [] := by
  obtain ⟨fd, F⟩ := T.d_is_count
  refine cal_of F T.m_is_count (binds_nil (ps := ["digits"]) F fun _ _ _ _ _ _ us hl => match us, hl with | [_], _ => rfl) is_count_scope (fun vs H Q E h => ?_) (fun cdv A outer s H vs Q E hr h => ?_)
  · obtain ⟨n, rfl, _⟩ := h
    rfl
  · have sc := is_count_scope
    obtain ⟨n, rfl, hn, k⟩ := h
    refine ⟨_, (pss_cons (ps_if (PW.pt (pw_or (pt_cmpR op_eq (pv 0) pe_str (nomark _)) (pw_or (pt_cmpR op_gt (pe_callB call_len (by rfl) T.len_ (by decide +kernel) (pa_cons (pv 0) pa_nil)) pe_int (nomark _)) (pw_or1 (PW.pt (pw_and (pt_cmpR op_eq (pe_ix ix_str (pv 0) pe_int (fun _ _ => rfl)) pe_str (nomark _)) (pw_and1 (pt_cmpR op_ne (pv 0) pe_str (nomark _)))))))))
    (pss_one (ps_ret pe_bl))
    pss_nil)
    (pss_one (ps_ret (pe_cmpR op_le (pe_callTy call_int_str (by rfl) T.int_ (by decide +kernel) (pa_cons (pv 0) pa_nil)) (C8.pe_gc rfl T.g_MOST_COUNT) (nomark _))))), ?_⟩
    have hne := TL.numL_ne n
    have h31 := num_len hn
    refine ⟨_, rfl, rfl, _, rfl, ifF (decide_eq_false fun q => ?_) ?_⟩
    · rw [empty_S] at q
      exact hne (S_eq.mp q)
    refine ⟨_, rfl, _, _, rfl, ⟨Sle (by omega), rfl⟩, _, _, rfl, rfl, _, rfl, ifF (decide_eq_false (by rw [Slen]; omega)) ?_⟩
    obtain ⟨x, xs, hx⟩ := List.exists_cons_of_ne_nil hne
    have fin : ∀ H', Ex H H' → tRet (tOp (rI0 fun i j => V.bl (decide (i ≤ j))) (tCB (fun xs H Q => ∃ a n, xs = [.str a] ∧ PySem.intText? a = some n ∧ a.length ≤ 640 ∧ Q (.int n) H) (tCons (tVar 0) tNil)) (tC (.int (10 ^ 30)))) { nx := fun _ H' => Q .non H', rt := Q } [some (.str (SX.S (TL.numL n)))] H' := fun H' e => by
      refine ⟨_, rfl, _, _, rfl, num_int hn, by rw [Slen]; omega, _, _, rfl, rfl, ?_⟩
      show Q (.bl (decide ((n : Int) ≤ 10 ^ 30))) H'
      rw [decide_eq_true (by exact_mod_cast hn)]
      exact k _ e
    have h0 : (TL.numL n)[0]? = some x := by rw [hx]; rfl
    refine ⟨_, rfl, _, _, _, rfl, rfl, Sle (by omega), S_at (j := 0) rfl h0, rfl, _, rfl, ifD (fun c1 => ?_) fun c1 => ifF rfl (fin _ (Ex.refl _))⟩
    have c1 : x = 48 := by rw [zero_S] at c1; exact sign_eq.mp c1
    have n0 : n = 0 := Classical.byContradiction fun q => num_head n q x (by rw [hx]; rfl) c1
    refine ⟨_, rfl, rfl, _, rfl, ifF ?_ (fin _ (Ex.refl _))⟩
    rw [zero_S, n0, num_zero, decide_eq_true rfl]
    rfl
end
end Fq

set_option Elab.async false
set_option linter.all false
set_option maxRecDepth 100000
set_option maxHeartbeats 4000000
namespace Fq
open PySem PySem.Spec PyProof.Rows L2
open Evl (Ex Ex.refl Ex.trans Ex.new Ex.mut fresh_back ex_l ex_t sq_of st_of)
section
variable {P : Program} {w : World} {K : PySem.W.Frag} {mg : Str → Option Value} {base : Heap}
def txs (s : List Nat) : List V := if s = [] then [] else [V.str (SX.S s)]
theorem txs_ne {s : List Nat} (h : s ≠ []) : txs s = [] ++ [V.str (SX.S s)] := by
  unfold txs
  rw [if_neg h]
  rfl
def PStage (H0 : Hp) (p : Prg) (ol l0 : Addr) (at_ : Nat) (H : Hp) : Nat → Prop
  | 0 => p.1 ≠ [] ∧ at_ = 0 ∧ H ol = some (.lst [.ref l0]) ∧ H l0 = some (.lst [])
  | 1 => at_ = p.1.length ∧ H ol = some (.lst [.ref l0]) ∧ H l0 = some (.lst (txs p.1))
  | 2 => ∃ s n l1, p.2 = some (s, n) ∧ s ≠ [] ∧ at_ = p.1.length + 1 ∧ H0 l1 = none ∧ l1 ≠ ol ∧ l1 ≠ l0 ∧ H ol = some (.lst [.ref l0, .ref l1]) ∧ H l0 = some (.lst (txs p.1)) ∧ H l1 = some (.lst [])
  | 3 => ∃ s n l1, p.2 = some (s, n) ∧ at_ = p.1.length + 1 + s.length ∧ H0 l1 = none ∧ l1 ≠ ol ∧ l1 ≠ l0 ∧ H ol = some (.lst [.ref l0, .ref l1]) ∧ H l0 = some (.lst (txs p.1)) ∧ H l1 = some (.lst (txs s))
  | _ => ∃ s n l1 t, p.2 = some (s, n) ∧ at_ = p.text.length ∧ H ol = some (.lst [.ref l0]) ∧ H l0 = some (.lst (txs p.1 ++ [.ref t])) ∧ H t = some (.tup [.ref l1, .int (n : Nat)]) ∧ H l1 = some (.lst (txs s))
def PInv (H0 : Hp) (p : Prg) (j : Nat) (σ : L2.St) (H : Hp) : Prop := ∃ (ol l0 : Addr) (at_ : Nat) (o3 o4 : Option V), σ = [some (.str (SX.S p.text)), some (.ref ol), some (.int (at_ : Int)), o3, o4] ∧ Ex H0 H ∧ H0 ol = none ∧ H0 l0 = none ∧ ol ≠ l0 ∧ PStage H0 p ol l0 at_ H j
theorem atn1 {x : V} : atI [x] (-1) = some x := rfl
theorem atn2 {x y : V} : atI [x, y] (-1) = some y := rfl
theorem txs_its {H : Hp} (s : List Nat) : ItsV H (txs s) (if s = [] then [] else [.t s]) := by
  unfold txs
  split
  · exact .nil
  · exact .cons rfl .nil
theorem txs_seqs (s : List Nat) : txs s = (if s = [] then [] else [s]).map fun s => V.str (SX.S s) := by
  unfold txs
  split <;> rfl
theorem paired_app {α β : Type} {F : α → β → Prop} : ∀ {xs : List α} {ys : List β} {xs' : List α} {ys' : List β}, Paired F xs ys → Paired F xs' ys' → Paired F (xs ++ xs') (ys ++ ys')
  | _, _, _, _, .nil, h => h
  | _, _, _, _, .cons r t, h => .cons r (paired_app t h)
theorem one_size : 1 ≤ sizeLine := by decide
theorem one_lt : 1 < sizeLine := by decide
theorem lstEq {H : Hp} {a : Addr} {xs ys : List V} (h : xs = ys) : upd H a (.lst xs) a = some (.lst ys) := by rw [upd_same, h]
theorem parse_scope : FnScope ["text", "open_lists", "at", "end", "items"] ["text"] (defScope s_parse) := ⟨rfl, rfl, rfl, by decide +kernel, rfl, by decide +kernel, by decide +kernel⟩
theorem c_parse (T : Tx K mg) (c_is_count : C8.Cal P w K mg base 1 "is_count" sp_is_count []) (c_span_of : C8.Cal P w K mg base 1 "span_of" sp_span_of []) : C8.Cal P w K mg base 2 "parse" sp_parse [] := by
  obtain ⟨fd, F⟩ := T.d_parse
  refine cal_of F T.m_parse (binds_nil (ps := ["text"]) F fun _ _ _ _ _ _ us hl => match us, hl with | [_], _ => rfl) parse_scope (fun vs H Q E h => ?_) (fun cdv A outer s H vs Q E hr h => ?_)
  · obtain ⟨p, rfl, _⟩ := h
    rfl
  · have sc := parse_scope
    obtain ⟨p, rfl, ok, k⟩ := h
    refine ⟨_, (pss_cons (ps_set (i := 1) sc.nd rfl (Or.inl rfl) (pe_lst (pa_cons (pe_lst pa_nil) pa_nil)))
    (pss_cons (ps_set (i := 2) sc.nd rfl (Or.inl rfl) pe_int)
    (pss_cons (ps_while PassesOwn.never (pt_cmpR op_lt (pv 2) (pe_callB call_len (by rfl) T.len_ (by decide +kernel) (pa_cons (pv 0) pa_nil)) (nomark _))
    (pss_one (ps_ifW (ptw_cmp op_gt (pew_named (i := 3) sc.nd rfl (Or.inl rfl) (pew_of (C8.pe_c c_span_of hr (by decide) rfl (pa_cons (pv 0) (pa_cons (pv 2) (pa_cons (C8.pe_gc rfl T.g_STEPS) pa_nil)))))) (pv 2) (nomark _))
      (pss_cons (ps_expr (pe_bm PySem.F.plainAttrs_list PySem.F.slot_list_append PySem.F.type_list_append mt_append (pe_ix ix_list (pv 1) (pe_un un_neg pe_int) (fun _ _ => rfl)) (pa_cons (pe_slice C8.sl_txt (pv 0) (po_some (pv 2)) (po_some (pv 3))) pa_nil)))
        (pss_one (ps_set (i := 2) sc.nd rfl (Or.inl rfl) (pv 3))))
      (pss_one (ps_if (PW.pt (pw_and (pt_cmpR op_eq (pe_ix ix_str (pv 0) (pv 2) (fun _ _ => rfl)) pe_str (nomark _)) (pw_and1 (pt_cmpR op_le (pe_callB call_len (by rfl) T.len_ (by decide +kernel) (pa_cons (pv 1) pa_nil)) (C8.pe_gc rfl T.g_MOST_DEPTH) (nomark _)))))
        (pss_cons (ps_expr (pe_bm PySem.F.plainAttrs_list PySem.F.slot_list_append PySem.F.type_list_append mt_append (pv 1) (pa_cons (pe_lst pa_nil) pa_nil)))
          (pss_one (ps_aug (i := 2) sc.nd rfl (Or.inl rfl) pe_int ip_add)))
        (pss_one (ps_if (PW.pt (pw_and (pt_cmpR op_eq (pe_ix ix_str (pv 0) (pv 2) (fun _ _ => rfl)) pe_str (nomark _)) (pw_and1 (pt_cmpR op_gt (pe_callB call_len (by rfl) T.len_ (by decide +kernel) (pa_cons (pv 1) pa_nil)) pe_int (nomark _)))))
          (pss_cons (ps_set (i := 3) sc.nd rfl (Or.inl rfl) (C8.pe_c c_span_of hr (by decide) rfl (pa_cons (pv 0) (pa_cons (pe_op op_add (pv 2) pe_int) (pa_cons (C8.pe_gc rfl T.g_DIGITS) pa_nil)))))
            (pss_cons (ps_if (pt_not (pt_val (C8.pe_c c_is_count hr (by decide) rfl (pa_cons (pe_slice C8.sl_txt (pv 0) (po_some (pe_op op_add (pv 2) pe_int)) (po_some (pv 3))) pa_nil))))
            (pss_one (ps_ret pe_non))
            pss_nil)
            (pss_cons (ps_set (i := 4) sc.nd rfl (Or.inl rfl) (pe_bm0 PySem.F.plainAttrs_list PySem.F.slot_list_pop PySem.F.type_list_pop mt_pop (pv 1)))
            (pss_cons (ps_expr (pe_bm PySem.F.plainAttrs_list PySem.F.slot_list_append PySem.F.type_list_append mt_append (pe_ix ix_list (pv 1) (pe_un un_neg pe_int) (fun _ _ => rfl)) (pa_cons (pe_tup (pa_cons (pv 4) (pa_cons (pe_callTy call_int_str (by rfl) T.int_ (by decide +kernel) (pa_cons (pe_slice C8.sl_txt (pv 0) (po_some (pe_op op_add (pv 2) pe_int)) (po_some (pv 3))) pa_nil)) pa_nil))) pa_nil)))
            (pss_one (ps_set (i := 2) sc.nd rfl (Or.inl rfl) (pv 3)))))))
          (pss_one (ps_ret pe_non)))))))))
    (pss_one (ps_ret (pe_ifExp (pt_cmpR op_eq (pe_callB call_len (by rfl) T.len_ (by decide +kernel) (pa_cons (pv 1) pa_nil)) pe_int (nomark _)) (pe_ix ix_list (pv 1) pe_int (fun _ _ => rfl)) pe_non)))))), ?_⟩
    have hlen : p.text.length ≤ 10000 := text_len ok
    have nat0 : ((0 : Nat) : Int) = 0 := rfl
    refine ⟨Nat.zero_le _, fun l0 hl0 => ⟨one_size, fun ol hol => ?_⟩⟩
    have hne : ol ≠ l0 := fun z => by subst z; rw [upd_same] at hol; cases hol
    have hol' : H ol = none := by rw [upd_ne hne] at hol; exact hol
    have e0 : Ex H (upd (upd H l0 (.lst [])) ol (.lst [.ref l0])) := Ex.mut (Ex.new hl0) hol'
    have g0 : upd (upd H l0 (.lst [])) ol (.lst [.ref l0]) ol = some (.lst [.ref l0]) := upd_same
    have g1 : upd (upd H l0 (.lst [])) ol (.lst [.ref l0]) l0 = some (.lst []) := by rw [upd_ne (Ne.symm hne)]; exact upd_same
    generalize upd (upd H l0 (.lst [])) ol (.lst [.ref l0]) = H00 at e0 g0 g1
    refine ⟨fun m σ H' => ∃ j, j ≤ 4 ∧ m = 4 - j ∧ PInv H p j σ H', ?_, ?_⟩
    · by_cases h1 : p.1 = []
      · exact ⟨3, 1, by omega, rfl, ol, l0, 0, none, none, rfl, e0, hol', hl0, hne, by rw [h1]; rfl, g0, by rw [g1, h1]; rfl⟩
      · exact ⟨4, 0, by omega, rfl, ol, l0, 0, none, none, rfl, e0, hol', hl0, hne, h1, rfl, g0, g1⟩
    · clear e0 g0 g1 hol hol' hl0 hne
      rintro m σ H1 ⟨j, hj, rfl, ol, l0, at_, o3, o4, rfl, ex, hol, hl0, hne, st⟩
      have nx : ∀ {j' : Nat}, j < j' → j' ≤ 4 → ∀ σ' H', PInv H p j' σ' H' → ∃ m', m' < 4 - j ∧ ∃ j, j ≤ 4 ∧ m' = 4 - j ∧ PInv H p j σ' H' := fun {j'} h1 h2 σ' H' q => ⟨4 - j', by omega, j', h2, rfl, q⟩
      refine ⟨_, rfl, _, rfl, _, _, rfl, ⟨Sle (by omega), rfl⟩, _, _, rfl, rfl, _, rfl, ?_⟩
      rw [Slen]
      match j, st with
      | 0, st =>
        obtain ⟨h1, rfl, g0, g1⟩ := st
        have hpos : 0 < p.1.length := List.length_pos_iff.mpr h1
        have hle : p.1.length ≤ p.text.length := by
          cases h2 : p.2 with
          | none => rw [text_none h2]; exact Nat.le_refl _
          | some r => have := (text_1 (p := p) (s := r.1) (n := r.2) h2).2.2; omega
        obtain ⟨t1, t2⟩ := text_0 ok
        refine ifT (decide_eq_true (by omega)) ⟨fun σ' H' => PInv H p 1 σ' H', nx (j' := 1) (by omega) (by omega), ?_⟩
        refine ⟨_, rfl, _, rfl, p.text, stepsL, 0, by rw [← steps_S]; try rfl, by omega, hlen, fun H2 e2 => ?_⟩
        rw [t1]
        have g0' := e2 _ _ g0
        have g1' := e2 _ _ g1
        refine ⟨_, rfl, _, _, rfl, rfl, _, rfl, ifT (decide_eq_true (by omega)) ?_⟩
        refine ⟨_, rfl, _, rfl, ol, _, _, _, rfl, rfl, SqL.of g0', atn1, .inl ⟨rfl, _, SqL.of g1'⟩, _, rfl, _, rfl, _, rfl, _, rfl, _, rfl, _, rfl, Sle (by omega), l0, _, _, rfl, rfl, g1', by decide, ?_⟩
        refine ⟨_, rfl, ol, l0, p.1.length, _, _, rfl, Ex.mut (ex.trans e2) hl0, hol, hl0, hne, rfl, by rw [upd_ne hne]; exact g0', lstEq ?_⟩
        rw [txs_ne h1, ← t2]
        rfl
      | 1, st =>
        obtain ⟨rfl, g0, g1⟩ := st
        cases h2 : p.2 with
        | none =>
          refine ifF (decide_eq_false (by rw [text_none h2]; omega)) ?_
          refine ⟨_, rfl, _, 1, rfl, .inl ⟨_, SqL.of g0, rfl⟩, rfl, _, rfl, ifT rfl ⟨_, rfl, ol, _, _, _, rfl, rfl, SqL.of g0, at0, k _ _ ex ⟨l0, _, rfl, g1, ?_⟩⟩⟩
          have e : p.its = if p.1 = [] then [] else [.t p.1] := by unfold Prg.its; rw [h2]; exact List.append_nil _
          rw [e]
          exact txs_its p.1
        | some r =>
          obtain ⟨s, n⟩ := r
          obtain ⟨t1, t2, t3⟩ := text_1 h2
          refine ifT (decide_eq_true (by omega)) ⟨fun σ' H' => ∃ j', 1 < j' ∧ j' ≤ 4 ∧ PInv H p j' σ' H', fun σ' H' ⟨j', q1, q2, q⟩ => nx q1 q2 σ' H' q, ?_⟩
          refine ⟨_, rfl, _, rfl, p.text, stepsL, p.1.length, by rw [← steps_S]; try rfl, by omega, hlen, fun H2 e2 => ?_⟩
          rw [t1]
          have g0' := e2 _ _ g0
          have g1' := e2 _ _ g1
          refine ⟨_, rfl, _, _, rfl, rfl, _, rfl, ifF (decide_eq_false (by omega)) ?_⟩
          refine ⟨_, rfl, _, rfl, _, _, _, rfl, rfl, Sle (by omega), S_at rfl t2, rfl, _, rfl, ifT (decide_eq_true (by rw [paren_S]; try rfl)) ?_⟩
          refine ⟨_, rfl, _, 1, rfl, .inl ⟨_, SqL.of g0', rfl⟩, _, _, rfl, rfl, _, rfl, ifT (by decide) ?_⟩
          refine ⟨_, rfl, .inl ⟨rfl, _, SqL.of g0'⟩, Nat.zero_le _, fun l1 hl1 => ?_⟩
          have n1 : l1 ≠ ol := fun z => by subst z; rw [g0'] at hl1; cases hl1
          have n2 : l1 ≠ l0 := fun z => by subst z; rw [g1'] at hl1; cases hl1
          have hl1H : H l1 = none := fresh_back (ex.trans e2) hl1
          refine ⟨ol, _, _, rfl, rfl, by rw [upd_ne (Ne.symm n1)]; exact g0', (by exact one_lt : [V.ref l0].length < sizeLine), ?_⟩
          refine ⟨_, rfl, _, _, rfl, rfl, ?_⟩
          have ex3 : Ex H (upd (upd H2 l1 (.lst [])) ol (.lst ([.ref l0] ++ [.ref l1]))) := Ex.mut (Ex.push (ex.trans e2) hl1) hol
          have f0 : upd (upd H2 l1 (.lst [])) ol (.lst ([.ref l0] ++ [.ref l1])) ol = some (.lst [.ref l0, .ref l1]) := upd_same
          have f1 : upd (upd H2 l1 (.lst [])) ol (.lst ([.ref l0] ++ [.ref l1])) l0 = some (.lst (txs p.1)) := by rw [upd_ne (Ne.symm hne), upd_ne (Ne.symm n2)]; exact g1'
          have f2 : upd (upd H2 l1 (.lst [])) ol (.lst ([.ref l0] ++ [.ref l1])) l1 = some (.lst []) := by rw [upd_ne n1]; exact upd_same
          by_cases hs : s = []
          · exact ⟨3, by omega, by omega, ol, l0, p.1.length + 1, _, _, by rw [show ((p.1.length + 1 : Nat) : Int) = (p.1.length : Int) + 1 by omega]; rfl, ex3, hol, hl0, hne, s, n, l1, h2, by rw [hs]; rfl, hl1H, n1, n2, f0, f1, by rw [f2, hs]; rfl⟩
          · exact ⟨2, by omega, by omega, ol, l0, p.1.length + 1, _, _, by rw [show ((p.1.length + 1 : Nat) : Int) = (p.1.length : Int) + 1 by omega]; rfl, ex3, hol, hl0, hne, s, n, l1, h2, hs, rfl, hl1H, n1, n2, f0, f1, f2⟩
      | 2, st =>
        obtain ⟨s, n, l1, h2, hs, rfl, hl1H, n1, n2, g0, g1, g2⟩ := st
        obtain ⟨t1, t2, t3⟩ := text_2 ok h2
        have hpos : 0 < s.length := List.length_pos_iff.mpr hs
        have hle := (text_3 h2).2.2.1
        refine ifT (decide_eq_true (by omega)) ⟨fun σ' H' => PInv H p 3 σ' H', nx (j' := 3) (by omega) (by omega), ?_⟩
        refine ⟨_, rfl, _, rfl, p.text, stepsL, p.1.length + 1, by rw [← steps_S]; try rfl, by omega, hlen, fun H2 e2 => ?_⟩
        rw [t1]
        have g0' := e2 _ _ g0
        have g1' := e2 _ _ g1
        have g2' := e2 _ _ g2
        refine ⟨_, rfl, _, _, rfl, rfl, _, rfl, ifT (decide_eq_true (by omega)) ?_⟩
        refine ⟨_, rfl, _, rfl, ol, _, _, _, rfl, rfl, SqL.of g0', atn2, .inl ⟨rfl, _, SqL.of g2'⟩, _, rfl, _, rfl, _, rfl, _, rfl, _, rfl, _, rfl, Sle (by omega), l1, _, _, rfl, rfl, g2', by decide, ?_⟩
        refine ⟨_, rfl, ol, l0, p.1.length + 1 + s.length, _, _, rfl, Ex.mut (ex.trans e2) hl1H, hol, hl0, hne, s, n, l1, h2, rfl, hl1H, n1, n2, by rw [upd_ne (Ne.symm n1)]; exact g0', by rw [upd_ne (Ne.symm n2)]; exact g1', lstEq ?_⟩
        rw [txs_ne hs, ← t2]
      | 3, st =>
        obtain ⟨s, n, l1, h2, rfl, hl1H, n1, n2, g0, g1, g2⟩ := st
        obtain ⟨t1, t2, t3, t4, t5⟩ := text_3 h2
        have hn : n ≤ 10 ^ 30 := (ok.more s n h2).2.2
        have hat : ((p.1.length + 1 + s.length + 1 : Nat) : Int) = ((p.1.length + 1 + s.length : Nat) : Int) + 1 := by omega
        refine ifT (decide_eq_true (by omega)) ⟨fun σ' H' => PInv H p 4 σ' H', nx (j' := 4) (by omega) (by omega), ?_⟩
        refine ⟨_, rfl, _, rfl, p.text, stepsL, p.1.length + 1 + s.length, by rw [← steps_S]; try rfl, by omega, hlen, fun H2 e2 => ?_⟩
        rw [t1]
        refine ⟨_, rfl, _, _, rfl, rfl, _, rfl, ifF (decide_eq_false (by omega)) ?_⟩
        refine ⟨_, rfl, _, rfl, _, _, _, rfl, rfl, Sle (by omega), S_at rfl t2, rfl, _, rfl, ifF (decide_eq_false (by rw [paren_S, sign_eq]; decide)) (ifF rfl ?_)⟩
        refine ⟨_, rfl, _, rfl, _, _, _, rfl, rfl, Sle (by omega), S_at rfl t2, rfl, _, rfl, ifT (decide_eq_true (by rw [close_S]; try rfl)) ?_⟩
        refine ⟨_, rfl, _, 2, rfl, .inl ⟨_, SqL.of (e2 _ _ g0), rfl⟩, _, _, rfl, rfl, _, rfl, ifT (by decide) ?_⟩
        refine ⟨_, rfl, _, rfl, _, _, rfl, rfl, p.text, List.range' 48 10, p.1.length + 1 + s.length + 1, by rw [← digits_S, hat]; rfl, by omega, hlen, fun H3 e3 => ?_⟩
        rw [t4]
        refine ⟨_, rfl, _, rfl, _, _, rfl, rfl, _, rfl, _, rfl, _, rfl, _, rfl, Sle (by omega), n, ?_, hn, fun H4 e4 => ?_⟩
        · rw [← hat, t5]
          rfl
        refine ⟨_, rfl, ifF rfl ?_⟩
        have e5 := (e2.trans e3).trans e4
        have g0' := e5 _ _ g0
        have g1' := e5 _ _ g1
        have g2' := e5 _ _ g2
        have ex4 := ex.trans e5
        refine ⟨_, rfl, .inl ⟨rfl, _, SqL.of g0'⟩, ol, _, _, rfl, rfl, g0', rfl, ?_⟩
        have ex6 : Ex H (upd H4 ol (.lst [.ref l0])) := Ex.mut ex4 hol
        have g0'' : upd H4 ol (.lst [.ref l0]) ol = some (.lst [.ref l0]) := upd_same
        have g1'' : upd H4 ol (.lst [.ref l0]) l0 = some (.lst (txs p.1)) := by rw [upd_ne (Ne.symm hne)]; exact g1'
        have g2'' : upd H4 ol (.lst [.ref l0]) l1 = some (.lst (txs s)) := by rw [upd_ne n1]; exact g2'
        show tSeq _ _ _ _ (upd H4 ol (.lst [.ref l0]))
        generalize upd H4 ol (.lst [.ref l0]) = H6 at ex6 g0'' g1'' g2''
        refine ⟨_, rfl, _, rfl, ol, _, _, _, rfl, rfl, SqL.of g0'', atn1, .inl ⟨rfl, _, SqL.of g1''⟩, _, rfl, _, rfl, _, rfl, _, _, rfl, rfl, _, rfl, _, rfl, _, rfl, _, rfl, Sle (by omega), _, (n : Int), rfl, ?_, ?_, two_size, fun t ht => ?_⟩
        · rw [← hat, t5]
          exact num_int hn
        · rw [← hat, t5, Slen]
          have := num_len hn
          omega
        have m1 : t ≠ ol := fun z => by subst z; rw [g0''] at ht; cases ht
        have m2 : t ≠ l0 := fun z => by subst z; rw [g1''] at ht; cases ht
        have m3 : t ≠ l1 := fun z => by subst z; rw [g2''] at ht; cases ht
        refine ⟨l0, _, _, rfl, rfl, by rw [upd_ne (Ne.symm m2)]; exact g1'', Nat.lt_of_le_of_lt (show (txs p.1).length ≤ 1 by unfold txs; split <;> simp) one_lt, ?_⟩
        refine ⟨_, rfl, ol, l0, p.text.length, _, _, rfl, Ex.mut (Ex.push ex6 ht) hl0, hol, hl0, hne, s, n, l1, t, h2, rfl, ?_, upd_same, ?_, ?_⟩
        · rw [upd_ne hne, upd_ne (Ne.symm m1)]
          exact g0''
        · rw [upd_ne m2]
          exact upd_same
        · rw [upd_ne n2, upd_ne (Ne.symm m3)]
          exact g2''
      | 4, st =>
        obtain ⟨s, n, l1, t, h2, rfl, g0, g1, g2, g3⟩ := st
        refine ifF (decide_eq_false (by omega)) ?_
        refine ⟨_, rfl, _, 1, rfl, .inl ⟨_, SqL.of g0, rfl⟩, rfl, _, rfl, ifT rfl ⟨_, rfl, ol, _, _, _, rfl, rfl, SqL.of g0, at0, k _ _ ex ⟨l0, _, rfl, g1, ?_⟩⟩⟩
        have e : p.its = (if p.1 = [] then [] else [.t p.1]) ++ [.r (if s = [] then [] else [s]) n] := by unfold Prg.its; rw [h2]
        rw [e]
        exact paired_app (txs_its p.1) (.cons ⟨t, l1, rfl, g2, by rw [txs_seqs] at g3; exact g3⟩ .nil)
theorem items_of_scope : FnScope ["program", "items"] ["program"] (defScope s_items_of) := ⟨rfl, rfl, rfl, by decide +kernel, rfl, by decide +kernel, by decide +kernel⟩
theorem c_items_of (T : Tx K mg) (c_parse : C8.Cal P w K mg base 2 "parse" sp_parse []) : C8.Cal P w K mg base 3 "items_of" sp_items_of [] := by
  obtain ⟨fd, F⟩ := T.d_items_of
  refine cal_of F T.m_items_of (binds_nil (ps := ["program"]) F fun _ _ _ _ _ _ us hl => match us, hl with | [_], _ => rfl) items_of_scope (fun vs H Q E h => ?_) (fun cdv A outer s H vs Q E hr h => ?_)
  · obtain ⟨p, rfl, _⟩ := h
    rfl
  · have sc := items_of_scope
    obtain ⟨p, rfl, ok, k⟩ := h
    refine ⟨_, (pss_cons (ps_set (i := 1) sc.nd rfl (Or.inl rfl) (pe_ifExp (pt_val (pe_callB call_isi (by rfl) T.isinstance_ (by decide +kernel) (pa_cons (pv 0) (pa_cons (pe_bltn (v := .ty "str") (u := .type "str") (by rfl) T.str_ (by decide +kernel) rfl) pa_nil)))) (C8.pe_c c_parse hr (by decide) rfl (pa_cons (pv 0) pa_nil)) pe_non))
    (pss_cons (ps_if (pt_cmpR op_isN (pv 1) pe_non (nomark _))
    pss_never
    pss_nil)
    (pss_one (ps_ret (pv 1))))), ?_⟩
    refine ⟨_, rfl, _, _, _, _, _, rfl, .ty _, .base (.str _), kit_str_str, _, rfl, ifT rfl ?_⟩
    refine ⟨_, rfl, p, rfl, ok, fun v H1 e1 q => ?_⟩
    obtain ⟨a, vs, rfl, q1⟩ := id q
    exact ⟨_, rfl, rfl, _, rfl, ifF ref_non ⟨_, rfl, k _ _ e1 q⟩⟩
end
end Fq

set_option Elab.async false
set_option linter.all false
set_option maxRecDepth 100000
set_option maxHeartbeats 4000000
namespace Fq
open PySem PySem.Spec PyProof.Rows L2
open Evl (Ex Ex.refl Ex.trans Ex.new Ex.mut fresh_back ex_l ex_t sq_of st_of)
section
variable {P : Program} {w : World} {K : PySem.W.Frag} {mg : Str → Option Value} {base : Heap}
theorem make_ex {H H1 H' : Hp} {x dx : Addr} {o1 o2 : HO} (e : Ex H H1) (hx : H1 x = none) (hdx : H1 dx = none) (h : ∀ b o, b ≠ x → upd (upd H1 dx o1) x o2 b = some o → H' b = some o) : Ex H H' := fun b o q => by
  have q1 := e b o q
  have n1 : b ≠ x := fun z => by subst z; rw [hx] at q1; cases q1
  have n2 : b ≠ dx := fun z => by subst z; rw [hdx] at q1; cases q1
  exact h b o n1 (by rw [upd_ne n1, upd_ne n2]; exact q1)
theorem made_ex {H1 : Hp} {x dx : Addr} {o1 o2 : HO} (hx : H1 x = none) (hdx : H1 dx = none) (hne : dx ≠ x) : Ex H1 (upd (upd H1 dx o1) x o2) :=
  (Ex.new hdx).trans (Ex.new (by rw [upd_ne (Ne.symm hne)]; exact hx))
theorem effect_of_scope : FnScope ["program", "capacity", "mode", "items"] ["program", "capacity", "mode"] (defScope s_effect_of) := ⟨rfl, rfl, rfl, by decide +kernel, rfl, by decide +kernel, by decide +kernel⟩
theorem c_effect_of (T : Tx K mg) (c_check_capacity : C8.Cal P w K mg base 3 "check_capacity" sp_check_capacity []) (c_check_mode : C8.Cal P w K mg base 2 "check_mode" sp_check_mode []) (EF : EffC P w K mg base) (c_items_of : C8.Cal P w K mg base 3 "items_of" sp_items_of []) (c_rows_of : C8.Cal P w K mg base 5 "rows_of" (sp_rows_of 2) []) : C8.Cal P w K mg base 8 "effect_of" (sp_effect_of K) [] := by
  obtain ⟨fd, F⟩ := T.d_effect_of
  refine cal_of F T.m_effect_of (binds_nil (ps := ["program", "capacity", "mode"]) F fun _ _ _ _ _ _ us hl => match us, hl with | [_, _, _], _ => rfl) effect_of_scope (fun vs H Q E h => ?_) (fun cdv A outer s H vs Q E hr h => ?_)
  · obtain ⟨p, C, m, rfl, _⟩ := h
    rfl
  · have sc := effect_of_scope
    obtain ⟨p, C, m, rfl, ok, hC, k⟩ := h
    refine ⟨_, (pss_cons (ps_set (i := 3) sc.nd rfl (Or.inl rfl) (C8.pe_c c_items_of hr (by decide) rfl (pa_cons (pv 0) pa_nil)))
    (pss_cons (ps_expr (C8.pe_c c_check_capacity hr (by decide) rfl (pa_cons (pv 1) pa_nil)))
    (pss_cons (ps_expr (C8.pe_c c_check_mode hr (by decide) rfl (pa_cons (pv 2) pa_nil)))
    (pss_one (ps_ret (C8.pe_mk EF.mak hr (by decide) rfl (pa_cons (pv 1) (pa_cons (C8.pe_c c_rows_of hr (by decide) rfl (pa_cons (pv 3) (pa_cons (pv 1) (pa_cons (pv 2) pa_nil)))) pa_nil)))))))), ?_⟩
    refine ⟨_, rfl, p, rfl, ok, fun v1 H1 e1 q1 => ?_⟩
    refine ⟨_, rfl, (C : Int), rfl, by omega, fun H2 e2 => ?_⟩
    refine ⟨_, rfl, m, rfl, fun H3 e3 => ?_⟩
    refine ⟨_, rfl, _, rfl, _, rfl, _, rfl, v1, p.its, C, m, rfl, q1.mono (e2.trans e3), trivial, its_ok ok, hC, fun v4 H4 e4 q4 => ?_⟩
    intro x dx hx hdx hne
    have e14 := ((e1.trans e2).trans e3).trans e4
    refine ⟨x, dx, v4, rowsOf p.its C m, C, rfl, upd_same, .inl (q4.mono (made_ex hx hdx hne)), goodRows_of hC.1 (its_ok ok), hC, fun H5 t h5 hxx ht => ⟨rfl, ?_⟩⟩
    exact k _ _ (make_ex e14 hx hdx h5) ⟨x, dx, t, rfl, hxx, ht⟩
theorem is_fact_scope : FnScope ["value"] ["value"] (defScope s_is_fact) := ⟨rfl, rfl, rfl, by decide +kernel, rfl, by decide +kernel, by decide +kernel⟩
theorem c_is_fact (T : Tx K mg) (c_is_queue : C8.Cal P w K mg base 4 "is_queue" sp_is_queue [V.int 100]) : C8.Cal P w K mg base 5 "is_fact" sp_is_fact [] := by
  obtain ⟨fd, F⟩ := T.d_is_fact
  refine cal_of F T.m_is_fact (binds_nil (ps := ["value"]) F fun _ _ _ _ _ _ us hl => match us, hl with | [_], _ => rfl) is_fact_scope (fun vs H Q E h => ?_) (fun cdv A outer s H vs Q E hr h => ?_)
  · obtain ⟨v, f, rfl, _⟩ := h
    rfl
  · have sc := is_fact_scope
    obtain ⟨v, f, rfl, hv, hg, k⟩ := h
    refine ⟨_, (pss_cons (ps_if (PW.pt (pw_or (pt_not (pt_val (pe_callB call_isi (by rfl) T.isinstance_ (by decide +kernel) (pa_cons (pv 0) (pa_cons (pe_bltn (v := .ty "tuple") (u := .type "tuple") (by rfl) T.tuple_ (by decide +kernel) rfl) pa_nil))))) (pw_or1 (pt_cmpR op_ne (pe_callB call_len (by rfl) T.len_ (by decide +kernel) (pa_cons (pv 0) pa_nil)) pe_int (nomark _)))))
    (pss_one (ps_ret pe_bl))
    pss_nil)
    (pss_one (ps_ret (pe_and (C8.pe_c c_is_queue hr (by decide) rfl (pa_cons (pe_ix ix_tup (pv 0) pe_int (fun _ _ => rfl)) pa_nil)) (pe_one (pe_or (pe_cmpR op_isN (pe_ix ix_tup (pv 0) pe_int (fun _ _ => rfl)) pe_non (nomark _)) (pe_one (C8.pe_c c_is_queue hr (by decide) rfl (pa_cons (pe_ix ix_tup (pv 0) pe_int (fun _ _ => rfl)) pa_nil))))))))), ?_⟩
    obtain ⟨a, rfl, ha⟩ := hv
    obtain ⟨h1, h2, h3⟩ := hg
    refine ⟨_, rfl, _, _, _, _, _, rfl, .ty _, .base (.tup ha), kit_tup_tup, _, rfl, ifF rfl ?_⟩
    refine ⟨_, rfl, _, 2, rfl, .inr ⟨_, .inl (.inl ha), rfl⟩, rfl, _, rfl, ifF rfl ?_⟩
    refine ⟨_, rfl, a, _, _, _, rfl, rfl, .inl (.inl ha), at0, f.1, 100, rfl, by omega, by omega, h2, fun H1 e1 => ?_⟩
    have ha1 := e1 _ _ ha
    refine ⟨_, rfl, ifT (decide_eq_true (by omega)) ?_⟩
    refine ⟨_, rfl, a, _, _, _, rfl, rfl, .inl (.inl ha1), at1, rfl, ?_⟩
    cases hq : f.2 with
    | none =>
      refine ⟨_, rfl, ifT (by rw [show optV none = V.non from rfl]; exact non_non) ?_⟩
      exact k _ e1
    | some q =>
      obtain ⟨h4, h5⟩ := h3 q hq
      rw [hq] at ha1
      refine ⟨_, rfl, ifF str_non ?_⟩
      refine ⟨_, rfl, a, _, _, _, rfl, rfl, .inl (.inl ha1), at1, q, 100, rfl, by omega, by omega, h5, fun H2 e2 => ?_⟩
      have := k _ (e1.trans e2)
      rwa [show decide (q.length ≤ 100) = true from decide_eq_true h4]
theorem kit_lst_lst {K : PySem.W.Frag} : PySem.W.kitOne K (.type "list") (.type "list") = some true := by first | rfl | decide +kernel
theorem FactV.mono {H H' : Hp} {v : V} {f : Fact} (e : Ex H H') (h : FactV H v f) : FactV H' v f := by
  obtain ⟨a, h1, h2⟩ := h
  exact ⟨a, h1, e a _ h2⟩
theorem FactsV.mono {H H' : Hp} {v : V} {f : List Fact} (e : Ex H H') (h : FactsV H v f) : FactsV H' v f := by
  obtain ⟨a, vs, h1, h2, h3⟩ := h
  exact ⟨a, vs, h1, e a _ h2, Paired.mapP h3 fun _ _ q => q.mono e⟩
theorem AnsV.mono {H H' : Hp} {v : V} {f : List (Option (List Nat))} (e : Ex H H') (h : AnsV H v f) : AnsV H' v f := by
  obtain ⟨a, h1, h2⟩ := h
  exact ⟨a, h1, e a _ h2⟩
theorem check_facts_scope : FnScope ["facts", "position", "fact"] ["facts"] (defScope s_check_facts) := ⟨rfl, rfl, rfl, by decide +kernel, rfl, by decide +kernel, by decide +kernel⟩
theorem c_check_facts (T : Tx K mg) (c_is_fact : C8.Cal P w K mg base 5 "is_fact" sp_is_fact []) : C8.Cal P w K mg base 6 "check_facts" sp_check_facts [] := by
  obtain ⟨fd, F⟩ := T.d_check_facts
  refine cal_of F T.m_check_facts (binds_nil (ps := ["facts"]) F fun _ _ _ _ _ _ us hl => match us, hl with | [_], _ => rfl) check_facts_scope (fun vs H Q E h => ?_) (fun cdv A outer s H vs Q E hr h => ?_)
  · obtain ⟨v, fs, rfl, _⟩ := h
    rfl
  · have sc := check_facts_scope
    obtain ⟨v, fs, rfl, hv, hg, hlen, k⟩ := h
    refine ⟨_, (pss_cons (ps_if (pt_not (pt_val (pe_callB call_isi (by rfl) T.isinstance_ (by decide +kernel) (pa_cons (pv 0) (pa_cons (pe_bltn (v := .ty "list") (u := .type "list") (by rfl) T.list_ (by decide +kernel) rfl) pa_nil)))))
    pss_never
    pss_nil)
    (pss_one (ps_for PassesOwn.never rfl (pi_enum rfl T.enumerate_ (pa_cons (pv 0) pa_nil)) (pg_tup rfl (pgs_cons (pg_name (i := 1) sc.nd rfl (Or.inl rfl)) (pgs_cons (pg_name (i := 2) sc.nd rfl (Or.inl rfl)) pgs_nil)))
    (pss_one (ps_if (pt_not (pt_val (C8.pe_c c_is_fact hr (by decide) rfl (pa_cons (pv 2) pa_nil))))
      pss_never
      pss_nil))))), ?_⟩
    obtain ⟨a, vs, rfl, ha, hvs⟩ := hv
    have hl : vs.length = fs.length := Paired.len hvs
    refine ⟨_, rfl, _, _, _, _, _, rfl, .ty _, .base (.lst ha), kit_lst_lst, _, rfl, ifF rfl ?_⟩
    dsimp only [tNext]
    refine tfor1 (walk_enum (K := K) (a := a) (xs := vs)) (fun R r => ⟨_, rfl, a, vs, rfl, .inl (.inl ha), r⟩)
      (fun i σ H' => ∃ o1 o2 : Option V, σ = [some (.ref a), o1, o2] ∧ Ex H H') ⟨none, none, rfl, Ex.refl _⟩ (fun i σ H' _ p => .inl (.inl (by obtain ⟨_, _, _, e⟩ := p; exact e _ _ ha))) ?_ ?_
    · rintro i y σ H1 H2 hi ⟨o1, o2, rfl, e⟩ ⟨q, y1, y2, rfl, hq, rfl, hy1, hy2⟩
      obtain ⟨f, hf, rf⟩ := Paired.at hvs hy2
      have e3 : Ex H (upd H1 q (.tup [y1, y2])) := Ex.push e hq
      refine ⟨q, _, rfl, .inl (.inl upd_same), rfl, _, _, rfl, _, _, rfl, rfl, ?_⟩
      refine ⟨_, rfl, y2, f, rfl, rf.mono e3, hg f (List.mem_of_getElem? hf), fun H4 e4 => ?_⟩
      exact ⟨_, rfl, ifF rfl ⟨_, _, rfl, e3.trans e4⟩⟩
    · rintro σ H3 ⟨o1, o2, rfl, e⟩
      exact k _ e
theorem check_answers_scope : FnScope ["capacity", "answers", "position", "answer"] ["capacity", "answers"] (defScope s_check_answers) := ⟨rfl, rfl, rfl, by decide +kernel, rfl, by decide +kernel, by decide +kernel⟩
theorem c_check_answers (T : Tx K mg) (c_is_queue : C8.Cal P w K mg base 4 "is_queue" sp_is_queue []) : C8.Cal P w K mg base 5 "check_answers" sp_check_answers [] := by
  obtain ⟨fd, F⟩ := T.d_check_answers
  refine cal_of F T.m_check_answers (binds_nil (ps := ["capacity", "answers"]) F fun _ _ _ _ _ _ us hl => match us, hl with | [_, _], _ => rfl) check_answers_scope (fun vs H Q E h => ?_) (fun cdv A outer s H vs Q E hr h => ?_)
  · obtain ⟨C, v, as, rfl, _⟩ := h
    rfl
  · have sc := check_answers_scope
    obtain ⟨C, v, as, rfl, hv, hg, hC, k⟩ := h
    refine ⟨_, (pss_cons (ps_if (PW.pt (pw_or (pt_not (pt_val (pe_callB call_isi (by rfl) T.isinstance_ (by decide +kernel) (pa_cons (pv 1) (pa_cons (pe_bltn (v := .ty "list") (u := .type "list") (by rfl) T.list_ (by decide +kernel) rfl) pa_nil))))) (pw_or1 (pt_cmpR op_ne (pe_callB call_len (by rfl) T.len_ (by decide +kernel) (pa_cons (pv 1) pa_nil)) (pe_op op_add (pe_op op_mul pe_int (pv 0)) pe_int) (nomark _)))))
    pss_never
    pss_nil)
    (pss_one (ps_for PassesOwn.never rfl (pi_enum rfl T.enumerate_ (pa_cons (pv 1) pa_nil)) (pg_tup rfl (pgs_cons (pg_name (i := 2) sc.nd rfl (Or.inl rfl)) (pgs_cons (pg_name (i := 3) sc.nd rfl (Or.inl rfl)) pgs_nil)))
    (pss_one (ps_if (PW.pt (pw_and (pt_cmpR op_notN (pv 3) pe_non (nomark _)) (pw_and1 (pt_not (pt_val (C8.pe_c c_is_queue hr (by decide) rfl (pa_cons (pv 3) (pa_cons (pv 0) pa_nil))))))))
      pss_never
      pss_nil))))), ?_⟩
    obtain ⟨a, rfl, ha⟩ := hv
    obtain ⟨h1, h2⟩ := hg
    refine ⟨_, rfl, _, _, _, _, _, rfl, .ty _, .base (.lst ha), kit_lst_lst, _, rfl, ifF rfl ?_⟩
    refine ⟨_, rfl, _, _, rfl, .inl ⟨_, .inl (.inl ha), rfl⟩, _, rfl, _, _, rfl, rfl, .inl ⟨by decide, by decide⟩, _, _, rfl, rfl, rfl, _, rfl, ifF ?_ ?_⟩
    · rw [List.length_map, h1, decide_eq_true]
      · rfl
      · exact congrArg V.int (by omega)
    dsimp only [tNext]
    refine tfor1 (walk_enum (K := K) (a := a) (xs := as.map optV)) (fun R r => ⟨_, rfl, a, _, rfl, .inl (.inl ha), r⟩)
      (fun i σ H' => ∃ o1 o2 : Option V, σ = [some (.int (C : Int)), some (.ref a), o1, o2] ∧ Ex H H') ⟨none, none, rfl, Ex.refl _⟩ (fun i σ H' _ p => .inl (.inl (by obtain ⟨_, _, _, e⟩ := p; exact e _ _ ha))) ?_ ?_
    · rintro i y σ H1 H2 hi ⟨o1, o2, rfl, e⟩ ⟨q, y1, y2, rfl, hq, rfl, hy1, hy2⟩
      have hy2 : (as.map optV)[i]? = some y2 := hy2
      rw [List.getElem?_map] at hy2
      obtain ⟨f, hf, rfl⟩ := Option.map_eq_some_iff.mp hy2
      have e3 : Ex H (upd H1 q (.tup [y1, optV f])) := Ex.push e hq
      refine ⟨q, _, rfl, .inl (.inl upd_same), rfl, _, _, rfl, _, _, rfl, rfl, ?_⟩
      cases f with
      | none => exact ⟨_, rfl, rfl, _, rfl, ifF (by decide) ⟨_, _, rfl, e3⟩⟩
      | some f =>
        obtain ⟨h3, h4⟩ := h2 f (List.mem_of_getElem? hf)
        refine ⟨_, rfl, rfl, _, rfl, ifT (by rw [show optV (some f) = V.str (SX.S f) from rfl, str_non]; rfl) ?_⟩
        refine ⟨_, rfl, _, rfl, f, C, rfl, hC, by omega, h4, fun H4 e4 => ?_⟩
        exact ⟨_, rfl, ifF (by rw [decide_eq_true h3]; rfl) ⟨_, _, rfl, e3.trans e4⟩⟩
    · rintro σ H3 ⟨o1, o2, rfl, e⟩
      exact k _ e
end
end Fq

set_option Elab.async false
set_option linter.all false
set_option maxRecDepth 100000
set_option maxHeartbeats 4000000
namespace Fq
open PySem PySem.Spec PyProof.Rows L2
open Evl (Ex Ex.refl Ex.trans Ex.new Ex.mut fresh_back ex_l ex_t sq_of st_of)
section
variable {P : Program} {w : World} {K : PySem.W.Frag} {mg : Str → Option Value} {base : Heap}
theorem fold_range {α : Type} (f : α → Nat → α) (a : α) (i : Nat) : (List.range (i + 1)).foldl f a = f ((List.range i).foldl f a) i := by
  rw [List.range_succ, List.foldl_append]
  rfl
theorem row_of_program_scope : FnScope ["items", "length", "capacity", "mode", "row", "item", "step", "rows", "turn"] ["items", "length", "capacity", "mode"] (defScope s_row_of_program) := ⟨rfl, rfl, rfl, by decide +kernel, rfl, by decide +kernel, by decide +kernel⟩
theorem c_row_of_program (T : Tx K mg) (c_joined_row : C8.Cal P w K mg base 1 "joined_row" sp_joined_row []) (c_row_after : C8.Cal P w K mg base 1 "row_after" sp_row_after []) (c_rows_of : C8.Cal P w K mg base 4 "rows_of" (sp_rows_of 1) []) : C8.Cal P w K mg base 5 "row_of_program" sp_row_of_program [] := by
  obtain ⟨fd, F⟩ := T.d_row_of_program
  refine cal_of F T.m_row_of_program (binds_nil (ps := ["items", "length", "capacity", "mode"]) F fun _ _ _ _ _ _ us hl => match us, hl with | [_, _, _, _], _ => rfl) row_of_program_scope (fun vs H Q E h => ?_) (fun cdv A outer s H vs Q E hr h => ?_)
  · obtain ⟨v, is, n, C, m, rfl, _⟩ := h
    rfl
  · have sc := row_of_program_scope
    obtain ⟨v, is, n, C, m, rfl, hv, hok, hC, hn, k⟩ := h
    refine ⟨_, (pss_cons (ps_set (i := 4) sc.nd rfl (Or.inl rfl) (pe_tup (pa_cons (pv 1) (pa_cons pe_str pa_nil))))
    (pss_cons (ps_for PassesOwn.never rfl (pi_list (pv 0)) (pg_name (i := 5) sc.nd rfl (Or.inl rfl))
    (pss_one (ps_if (pt_val (pe_callB call_isi (by rfl) T.isinstance_ (by decide +kernel) (pa_cons (pv 5) (pa_cons (pe_bltn (v := .ty "str") (u := .type "str") (by rfl) T.str_ (by decide +kernel) rfl) pa_nil))))
      (pss_one (ps_for PassesOwn.never rfl (pi_str (pv 5)) (pg_name (i := 6) sc.nd rfl (Or.inl rfl))
        (pss_one (ps_set (i := 4) sc.nd rfl (Or.inl rfl) (C8.pe_c c_row_after hr (by decide) rfl (pa_cons (pv 4) (pa_cons (pv 6) (pa_cons (pv 2) (pa_cons (pv 3) pa_nil)))))))))
      (pss_cons (ps_set (i := 7) sc.nd rfl (Or.inl rfl) (C8.pe_c c_rows_of hr (by decide) rfl (pa_cons (pe_ix ix_tup (pv 5) pe_int (fun _ _ => rfl)) (pa_cons (pv 2) (pa_cons (pv 3) pa_nil)))))
        (pss_one (ps_for PassesOwn.never rfl (pi_range1 (by rfl) T.range_ (pa_cons (pe_callB (call_min2 rfl) (by rfl) T.min_ (by decide +kernel) (pa_cons (pe_ix ix_tup (pv 5) pe_int (fun _ _ => rfl)) (pa_cons (pe_op op_add (pe_op op_mul pe_int (pv 2)) pe_int) pa_nil))) pa_nil)) (pg_name (i := 8) sc.nd rfl (Or.inl rfl))
        (pss_one (ps_set (i := 4) sc.nd rfl (Or.inl rfl) (C8.pe_c c_joined_row hr (by decide) rfl (pa_cons (pv 4) (pa_cons (pv 7) pa_nil)))))))))))
    (pss_one (ps_ret (pv 4))))), ?_⟩
    obtain ⟨a, vs, rfl, ha, hvs⟩ := hv
    have hl : vs.length = is.length := Paired.len hvs
    refine ⟨_, rfl, two_size, fun p0 hp0 => ?_⟩
    have e0 : Ex H (upd H p0 (.tup [.int (n : Int), .str ""])) := Ex.new hp0
    have q0 : RowV (upd H p0 (.tup [.int (n : Int), .str ""])) (.ref p0) (some (n, [])) := row_new rfl empty_S
    dsimp only [gName]
    generalize upd H p0 (.tup [.int (n : Int), .str ""]) = H0 at e0 q0
    have ha0 := e0 _ _ ha
    have ok0 : OkRow C (some (n, [])) := okRow_some (by simpa using hn)
    refine tfor (walk_list (K := K) (a := a) (xs := vs)) (fun R r => ⟨_, rfl, a, rfl, ⟨_, .inl (.inl ha0)⟩, r⟩)
      (fun i σ H' => ∃ (v1 : V) (o2 o3 o4 o5 : Option V), σ = [some (.ref a), some (.int (n : Int)), some (.int (C : Int)), some (.str m.s), some v1, o2, o3, o4, o5] ∧ Ex H H' ∧ RowV H' v1 ((is.take i).foldl (rowItem C m) (some (n, []))))
      ⟨_, none, none, none, none, rfl, e0, q0⟩ (fun i σ H' _ p => .inl (.inl (by obtain ⟨_, _, _, _, _, _, e, _⟩ := p; exact e _ _ ha))) ?_ ?_
    · rintro i x σ H1 H2 hi ⟨v1, o2, o3, o4, o5, rfl, e, q⟩ ⟨rfl, hx⟩
      obtain ⟨it, hit, rx⟩ := Paired.at hvs hx
      rw [fold_snoc (rowItem C m) _ hit]
      have ok1 : OkRow C ((is.take i).foldl (rowItem C m) (some (n, []))) := okRow_rows hC.1 _ ok0
      generalize (is.take i).foldl (rowItem C m) (some (n, [])) = r0 at q ok1
      have rx := rx.mono e
      have hm : it ∈ is := List.mem_of_getElem? hit
      cases it with
      | t s =>
        have ex : x = .str (SX.S s) := rx
        subst ex
        have hs : s.length ≤ 1000 := (hok.ok _ hm).1
        refine ⟨_, rfl, _, _, _, _, _, rfl, .ty _, .base (.str _), kit_str_str, _, rfl, ifT rfl ?_⟩
        refine tfor1 (walk_str (z := SX.S s)) (fun R r => ⟨_, rfl, SX.S s, rfl, r⟩)
          (fun j σ H' => ∃ (v1 : V) (o3 o4 o5 : Option V), σ = [some (.ref a), some (.int (n : Int)), some (.int (C : Int)), some (.str m.s), some v1, some (.str (SX.S s)), o3, o4, o5] ∧ Ex H H' ∧ RowV H' v1 ((s.take j).foldl (fun r c => rowAfter r c C m) r0) ∧ OkRow C ((s.take j).foldl (fun r c => rowAfter r c C m) r0))
          ⟨_, _, _, _, rfl, e, q, ok1⟩ (fun _ _ _ _ _ => trivial) ?_ ?_
        · rintro j y σ H3 H4 hj ⟨v1, o3, o4, o5, rfl, e3, q3, ok3⟩ ⟨rfl, c, hc, rfl⟩
          have hc := str_at hc
          rw [fold_snoc (fun r c => rowAfter r c C m) _ hc]
          refine ⟨_, rfl, _, rfl, _, rfl, _, rfl, v1, _, c, C, m, rfl, q3, fun k w hk => ?_, fun v' H5 e5 q5 => ?_⟩
          · have := ok3 k w hk
            omega
          · exact ⟨v', _, _, _, rfl, e3.trans e5, q5, okRow_after ok3 hC.1⟩
        · rintro σ H3 ⟨v1, o3, o4, o5, rfl, e3, q3, ok3⟩
          refine ⟨v1, _, _, _, _, rfl, e3, ?_⟩
          rw [fold_all _ _ str_size] at q3
          exact q3
      | r b k =>
        obtain ⟨b0, c0, rfl, hb, hc⟩ := rx
        obtain ⟨_, _, hk⟩ := hok.ok _ hm
        refine ⟨_, rfl, _, _, _, _, _, rfl, .ty _, .base (.tup hb), kit_tup_str, _, rfl, ifF rfl ?_⟩
        refine ⟨_, rfl, b0, _, _, _, rfl, rfl, .inl (.inl hb), at0, _, rfl, _, rfl, _, b.map Pc.t, C, m, rfl, ⟨c0, _, rfl, hc, seqs_its b⟩, deep_down (d := 1) (is := is) trivial hm, itsOk_body hok hm, hC, fun v3 H3 e3 q3 => ?_⟩
        rw [rowsOf_flat] at q3
        have hb3 := e3 _ _ hb
        refine ⟨_, rfl, b0, _, _, _, rfl, rfl, .inl (.inl hb3), at1, _, rfl, _, _, rfl, rfl, .inl ⟨by decide, by decide⟩, _, _, rfl, rfl, _, _, rfl, _, rfl, ?_⟩
        have em : (if 2 * (C : Int) + 2 < (k : Int) then 2 * (C : Int) + 2 else (k : Int)) = ((min k (2 * C + 2) : Nat) : Int) := by split <;> omega
        rw [em]
        refine ⟨by omega, by omega, ?_⟩
        rw [Int.toNat_natCast]
        refine for_it (D := { nx := _, rt := _ }) (walk_range (lo := 0) (n := min k (2 * C + 2)))
          (fun j σ H' => ∃ (v1 : V) (o3 o5 : Option V), σ = [some (.ref a), some (.int (n : Int)), some (.int (C : Int)), some (.str m.s), some v1, some (.ref b0), o3, some v3, o5] ∧ Ex H2 H' ∧ TabV H' v3 (rowsFlat b C m) ∧ RowV H' v1 ((List.range j).foldl (fun r _ => joinedRow r (rowsFlat b C m)) r0) ∧ OkRow C ((List.range j).foldl (fun r _ => joinedRow r (rowsFlat b C m)) r0))
          ⟨_, _, _, rfl, e3, q3, q.mono e3, ok1⟩ (fun _ _ _ _ _ => trivial) ?_ ?_
        · rintro j y σ H4 H5 hj ⟨v1, o3, o5, rfl, e4, q4, q5, ok4⟩ ⟨rfl, rfl⟩
          rw [fold_range]
          refine ⟨_, rfl, _, rfl, v1, v3, _, _, C, rfl, q5, q4, ok4, okRows_flat hC.1 b, hC.2, fun v' H6 e6 q6 => ?_⟩
          exact ⟨v', _, _, rfl, e4.trans e6, q4.mono e6, q6, okRow_joined ok4 (okRows_flat hC.1 b)⟩
        · rintro σ H4 ⟨v1, o3, o5, rfl, e4, q4, q5, ok4⟩
          exact ⟨v1, _, _, _, _, rfl, e.trans e4, q5⟩
    · rintro σ H1 ⟨v1, o2, o3, o4, o5, rfl, e, q⟩
      refine ⟨_, rfl, k _ _ e ?_⟩
      rw [fold_all _ _ hl] at q
      exact q
theorem result_by_row_scope : FnScope ["items", "capacity", "mode", "queue", "row"] ["items", "capacity", "mode", "queue"] (defScope s_result_by_row) := ⟨rfl, rfl, rfl, by decide +kernel, rfl, by decide +kernel, by decide +kernel⟩
theorem c_result_by_row (T : Tx K mg) (c_row_of_program : C8.Cal P w K mg base 5 "row_of_program" sp_row_of_program []) : C8.Cal P w K mg base 6 "result_by_row" sp_result_by_row [] := by
  obtain ⟨fd, F⟩ := T.d_result_by_row
  refine cal_of F T.m_result_by_row (binds_nil (ps := ["items", "capacity", "mode", "queue"]) F fun _ _ _ _ _ _ us hl => match us, hl with | [_, _, _, _], _ => rfl) result_by_row_scope (fun vs H Q E h => ?_) (fun cdv A outer s H vs Q E hr h => ?_)
  · obtain ⟨v, is, C, m, q, rfl, _⟩ := h
    rfl
  · have sc := result_by_row_scope
    obtain ⟨v, is, C, m, q, rfl, hv, hok, hC, hn, k⟩ := h
    refine ⟨_, (pss_cons (ps_set (i := 4) sc.nd rfl (Or.inl rfl) (C8.pe_c c_row_of_program hr (by decide) rfl (pa_cons (pv 0) (pa_cons (pe_callB call_len (by rfl) T.len_ (by decide +kernel) (pa_cons (pv 3) pa_nil)) (pa_cons (pv 1) (pa_cons (pv 2) pa_nil))))))
    (pss_one (ps_ret (pe_ifExp (pt_cmpR op_isN (pv 4) pe_non (nomark _)) pe_non (pe_op op_add_str (pe_slice C8.sl_txt (pv 3) (po_some (pe_op op_sub (pe_callB call_len (by rfl) T.len_ (by decide +kernel) (pa_cons (pv 3) pa_nil)) (pe_ix ix_tup (pv 4) pe_int (fun _ _ => rfl)))) po_none) (pe_ix ix_tup (pv 4) pe_int (fun _ _ => rfl))))))), ?_⟩
    refine ⟨_, rfl, _, rfl, _, _, rfl, ⟨Sle (by omega), rfl⟩, _, rfl, _, rfl, v, is, q.length, C, m, by rw [Slen]; rfl, hv, hok, hC, hn, fun v1 H1 e1 q1 => ?_⟩
    have ok1 := goodRow_prog (m := m) hC.1 hn hok
    have k1 := k H1 e1
    unfold resultByRow at k1
    generalize rowOfProgram is q.length C m = r at q1 ok1 k1
    cases r with
    | none =>
      have ev : v1 = .non := q1
      subst ev
      exact ⟨_, rfl, rfl, _, rfl, ifT (by decide) k1⟩
    | some r =>
      obtain ⟨n, z⟩ := r
      obtain ⟨a, rfl, ha⟩ := q1
      obtain ⟨g1, hz, _⟩ := ok1 n z rfl
      refine ⟨_, rfl, rfl, _, rfl, ifF ref_non ?_⟩
      refine ⟨_, rfl, _, rfl, _, _, rfl, ⟨Sle (by omega), rfl⟩, _, rfl, a, _, _, _, rfl, rfl, .inl (.inl ha), at0, _, _, rfl, rfl, _, rfl, _, rfl, Sle (by omega), _, rfl, a, _, _, _, rfl, rfl, .inl (.inl ha), at1, _, _, rfl, rfl, ?_, ?_⟩
      · rw [Slice q (k := q.length - n) (by rw [Slen]; omega)]
        exact Sle2 (by rw [List.length_drop]; omega) (by omega)
      · rw [Slice q (k := q.length - n) (by rw [Slen]; omega), Scat]
        exact k1
end
end Fq

set_option Elab.async false
set_option linter.all false
set_option maxRecDepth 100000
set_option maxHeartbeats 4000000
namespace Fq
open PySem PySem.Spec PyProof.Rows L2
open Evl (Ex Ex.refl Ex.trans Ex.new Ex.mut fresh_back ex_l ex_t sq_of st_of)
section
variable {P : Program} {w : World} {K : PySem.W.Frag} {mg : Str → Option Value} {base : Heap}
theorem optV_some {q : List Nat} : optV (some q) = V.str (SX.S q) := rfl
theorem sign_eq' {c d : Nat} : decide (V.str (SX.S [c]) = V.str ⟨#[d]⟩) = decide (c = d) := by
  refine decide_eq_decide.mpr ?_
  show (V.str (SX.S [c]) = V.str (SX.S [d])) ↔ c = d
  rw [S_eq]
  exact ⟨fun h => List.head_eq_of_cons_eq h, fun h => by rw [h]⟩
theorem row_of_answers_scope : FnScope ["length", "first", "second", "kept", "word", "index", "letter"] ["length", "first", "second"] (defScope s_row_of_answers) := ⟨rfl, rfl, rfl, by decide +kernel, rfl, by decide +kernel, by decide +kernel⟩
theorem c_row_of_answers (T : Tx K mg)  : C8.Cal P w K mg base 1 "row_of_answers" sp_row_of_answers [] := by
  obtain ⟨fd, F⟩ := T.d_row_of_answers
  refine cal_of F T.m_row_of_answers (binds_nil (ps := ["length", "first", "second"]) F fun _ _ _ _ _ _ us hl => match us, hl with | [_, _, _], _ => rfl) row_of_answers_scope (fun vs H Q E h => ?_) (fun cdv A outer s H vs Q E hr h => ?_)
  · obtain ⟨n, r, C, rfl, _⟩ := h
    rfl
  · have sc := row_of_answers_scope
    obtain ⟨n, r, C, rfl, hg, hn, hC, k⟩ := h
    refine ⟨_, (pss_cons (ps_if (PW.pt (pw_and (pt_cmpR op_isN (pv 1) pe_non (nomark _)) (pw_and1 (pt_cmpR op_isN (pv 2) pe_non (nomark _)))))
    (pss_one (ps_ret pe_non))
    pss_nil)
    (pss_cons (ps_if (PW.pt (pw_or (pt_cmpR op_isN (pv 1) pe_non (nomark _)) (pw_or1 (pt_cmpR op_isN (pv 2) pe_non (nomark _)))))
    pss_never
    pss_nil)
    (pss_cons (ps_set (i := 3) sc.nd rfl (Or.inl rfl) (pe_callB call_len (by rfl) T.len_ (by decide +kernel) (pa_cons (pe_lc (own := [("index", 5), ("letter", 6)]) (g := gTup K 2 (gCons (gName 5) (gCons (gName 6) gNil))) rfl sc.nd (pi_enumS rfl T.enumerate_ (pa_cons (pv 1) pa_nil)) (blkOk_by (N := ["length", "first", "second", "kept", "word", "index", "letter"]) (sc := defScope s_row_of_answers) (by decide +kernel)) (fun _ _ _ _ _ => (pg_tup rfl (pgs_cons (pg_name (i := 5) sc.nd rfl (Or.inl rfl)) (pgs_cons (pg_name (i := 6) sc.nd rfl (Or.inl rfl)) pgs_nil)))) (fun _ _ _ _ _ => (pts_one (pt_cmpR op_ne (pe_slice C8.sl_txt (pv 2) (po_some (pv 5)) (po_some (pe_op op_add (pv 5) pe_int))) (pv 6) (nomark _)))) (fun _ _ _ _ _ => (pv 5))) pa_nil)))
    (pss_cons (ps_set (i := 4) sc.nd rfl (Or.inl rfl) (pe_slice C8.sl_txt (pv 1) (po_some (pv 3)) po_none))
    (pss_cons (ps_if (PW.pt (pw_or (pt_cmpR op_gt (pv 3) (pv 0) (nomark _)) (pw_or (pt_cmpR op_ne (pv 1) (pe_op op_add_str (pe_op op_mul_str pe_str (pv 3)) (pv 4)) (nomark _)) (pw_or1 (pt_cmpR op_ne (pv 2) (pe_op op_add_str (pe_op op_mul_str pe_str (pv 3)) (pv 4)) (nomark _))))))
    pss_never
    pss_nil)
    (pss_one (ps_ret (pe_tup (pa_cons (pv 3) (pa_cons (pv 4) pa_nil)))))))))), ?_⟩
    cases r with
    | none =>
      refine ⟨_, rfl, rfl, _, rfl, ifT non_non ⟨_, rfl, rfl, _, rfl, ifT non_non ?_⟩⟩
      exact k _ _ (Ex.refl _) rfl
    | some r =>
      obtain ⟨c, z⟩ := r
      obtain ⟨g1, g2, g3⟩ := hg c z rfl
      rw [apply_rep g1, apply_rep g1]
      have l1 : (List.replicate c 97 ++ z).length = c + z.length := by simp
      have l2 : (List.replicate c 98 ++ z).length = c + z.length := by simp
      refine ⟨_, rfl, rfl, _, rfl, ifF str_non (ifF rfl ?_)⟩
      refine ⟨_, rfl, rfl, _, rfl, ifF str_non ⟨_, rfl, rfl, _, rfl, ifF str_non ?_⟩⟩
      refine ⟨_, rfl, _, rfl, fun D hD => ?_⟩
      have hsz : (SX.S (List.replicate c 97 ++ z)).cps.size = c + z.length := by rw [str_size, l1]
      refine lc_gen (walk_enumS (z := SX.S (List.replicate c 97 ++ z))) hD (by rw [hsz]; omega) (fun H' e => trivial) (fun i H x H' y => by
        obtain ⟨T, x1, y1, _, hT, rfl, _⟩ := y
        exact Ex.new hT) (fun i => decide (i < c)) (fun i y H => True) (fun i y H H' e q => q) ?_ fun ys H' e hy hp2 => ?_
      · intro i x H1 H2 Acc Nn hi e e2 y ka kn
        obtain ⟨q, y1, y2, rfl, hq, rfl, hy1, hy2⟩ := y
        have ey : y1 = .int (i : Int) := (Option.some.inj hy1).symm
        subst ey
        have hi : i < c + z.length := by rw [← hsz]; exact hi
        have hy2 : (SX.S (List.replicate c 97 ++ z)).cps[i]?.map (fun c => V.str ⟨#[c]⟩) = some y2 := hy2
        obtain ⟨d, hd, rfl⟩ := Option.map_eq_some_iff.mp hy2
        have hd := str_at hd
        obtain ⟨d2, hd2⟩ : ∃ d2, (List.replicate c 98 ++ z)[i]? = some d2 := ⟨_, List.getElem?_eq_getElem (by rw [l2]; exact hi)⟩
        refine ⟨q, _, rfl, .inl (.inl upd_same), rfl, _, _, rfl, _, _, rfl, rfl, rfl, ?_⟩
        refine ⟨_, rfl, _, rfl, _, rfl, _, rfl, _, _, rfl, rfl, _, rfl, _, rfl, Sle (by rw [l2]; omega), _, rfl, rfl, _, rfl, ?_⟩
        rw [slice_one hd2 rfl, sign_eq']
        have cmp : (!decide (d2 = d)) = decide (i < c) := by
          by_cases h1 : i < c
          · rw [List.getElem?_append_left (by simpa using h1)] at hd hd2
            rw [List.getElem?_replicate, if_pos h1] at hd hd2
            cases hd
            cases hd2
            rw [decide_eq_true h1]
            rfl
          · rw [List.getElem?_append_right (by simpa using h1)] at hd hd2
            rw [List.length_replicate] at hd hd2
            have e3 : d2 = d := Option.some.inj (hd2.symm.trans hd)
            rw [decide_eq_true e3, decide_eq_false h1]
            rfl
        rw [cmp]
        by_cases h1 : i < c
        · exact ifT (decide_eq_true h1) ⟨_, rfl, ka (decide_eq_true h1) _ _ (Ex.refl _) trivial⟩
        · exact ifF (decide_eq_false h1) (kn (decide_eq_false h1) _ (Ex.refl _))
      · have hlen : ys.length = c := by
          rw [← Paired.len hp2, hsz, filter_lt (by omega)]
        refine ⟨_, ys.length, rfl, .inl ⟨ys, .inl (.inl hy), rfl⟩, ?_⟩
        rw [hlen]
        refine ⟨_, rfl, _, rfl, _, rfl, _, rfl, Sle (by rw [l1]; omega), ?_⟩
        rw [Slice (List.replicate c 97 ++ z) (k := c) rfl, List.drop_left' (by simp)]
        refine ⟨_, rfl, _, rfl, _, _, rfl, rfl, _, rfl, ifF (decide_eq_false (by omega)) ?_⟩
        refine ⟨_, rfl, _, rfl, [97], (c : Int), congrArg V.str a_S, rfl, ⟨by omega, by omega⟩, by decide, by simp; omega, _, rfl, _, _, rfl, rfl, ?_, rfl, _, rfl, ifF ?_ ?_⟩
        · rw [Int.toNat_natCast, times_one]
          exact Sle2 (by rw [List.length_replicate]; omega) (by omega)
        · rw [Int.toNat_natCast, times_one, Scat, optV_some, decide_eq_true rfl]
          rfl
        refine ⟨_, rfl, _, rfl, [98], (c : Int), congrArg V.str b_S, rfl, ⟨by omega, by omega⟩, by decide, by simp; omega, _, rfl, _, _, rfl, rfl, ?_, rfl, _, rfl, ifF ?_ ?_⟩
        · rw [Int.toNat_natCast, times_one]
          exact Sle2 (by rw [List.length_replicate]; omega) (by omega)
        · rw [Int.toNat_natCast, times_one, Scat, optV_some, decide_eq_true rfl]
          rfl
        refine ⟨_, rfl, _, rfl, two_size, fun p hp => k _ _ (Ex.push e hp) (row_new rfl rfl)⟩
theorem identify_scope : FnScope ["capacity", "answers", "first", "others", "rows", "length"] ["capacity", "answers"] (defScope s_identify) := ⟨rfl, rfl, rfl, by decide +kernel, rfl, by decide +kernel, by decide +kernel⟩
theorem c_identify (T : Tx K mg) (c_check_answers : C8.Cal P w K mg base 5 "check_answers" sp_check_answers []) (c_check_capacity : C8.Cal P w K mg base 3 "check_capacity" sp_check_capacity []) (EF : EffC P w K mg base) (c_row_of_answers : C8.Cal P w K mg base 1 "row_of_answers" sp_row_of_answers []) : C8.Cal P w K mg base 8 "identify" (sp_identify K) [] := by
  obtain ⟨fd, F⟩ := T.d_identify
  refine cal_of F T.m_identify (binds_nil (ps := ["capacity", "answers"]) F fun _ _ _ _ _ _ us hl => match us, hl with | [_, _], _ => rfl) identify_scope (fun vs H Q E h => ?_) (fun cdv A outer s H vs Q E hr h => ?_)
  · obtain ⟨C, v, rows, rfl, _⟩ := h
    rfl
  · have sc := identify_scope
    obtain ⟨C, v, rows, rfl, hv, hg, hC, k⟩ := h
    refine ⟨_, (pss_cons (ps_expr (C8.pe_c c_check_capacity hr (by decide) rfl (pa_cons (pv 0) pa_nil)))
    (pss_cons (ps_expr (C8.pe_c c_check_answers hr (by decide) rfl (pa_cons (pv 0) (pa_cons (pv 1) pa_nil))))
    (pss_cons (ps_asg (pv 1) (pg_star rfl (pgs_cons (pg_name (i := 2) sc.nd rfl (Or.inl rfl)) (pgs_cons (pg_name (i := 3) sc.nd rfl (Or.inl rfl)) pgs_nil))))
    (C8.pss_cut (ps_set (i := 4) sc.nd rfl (Or.inl rfl) (pe_lst (pa_cons (pe_ifExp (pt_cmpR op_isN (pv 2) pe_non (nomark _)) pe_non (pe_tup (pa_cons pe_int (pa_cons (pv 2) pa_nil)))) pa_nil)))
    (pss_cons (ps_for PassesOwn.never rfl (pi_range2 (by rfl) T.range_ (pa_cons pe_int (pa_cons (pe_op op_add (pv 0) pe_int) pa_nil))) (pg_name (i := 5) sc.nd rfl (Or.inl rfl))
    (pss_one (ps_expr (pe_bm PySem.F.plainAttrs_list PySem.F.slot_list_append PySem.F.type_list_append mt_append (pv 4) (pa_cons (C8.pe_c c_row_of_answers hr (by decide) rfl (pa_cons (pv 5) (pa_cons (pe_ix ix_list (pv 3) (pe_op op_sub (pe_op op_mul pe_int (pv 5)) pe_int) (fun _ _ => rfl)) (pa_cons (pe_ix ix_list (pv 3) (pe_op op_sub (pe_op op_mul pe_int (pv 5)) pe_int) (fun _ _ => rfl)) pa_nil)))) pa_nil)))))
    (pss_one (ps_ret (C8.pe_mk EF.mak hr (by decide) rfl (pa_cons (pv 0) (pa_cons (pv 4) pa_nil)))))))))), ?_⟩
    obtain ⟨a, rfl, ha⟩ := hv
    refine ⟨_, rfl, (C : Int), rfl, by omega, fun H1 e1 => ?_⟩
    refine ⟨_, rfl, _, rfl, C, .ref a, _, rfl, ⟨a, rfl, e1 _ _ ha⟩, answers_good hg, hC, fun H2 e2 => ?_⟩
    have ha2 := e2 _ _ (e1 _ _ ha)
    have hal : (answers rows C).length = 2 * C + 1 := (answers_good hg).1
    obtain ⟨o0, rest, hans⟩ := List.exists_cons_of_ne_nil (show answers rows C ≠ [] from fun q => by rw [q] at hal; simp at hal)
    have hrl : rest.length = 2 * C := by rw [hans] at hal; simpa using hal
    obtain ⟨r0, hr0, g0, q0⟩ := resultOf_rep (c := 97) hg (Nat.zero_le C)
    have ho0 : o0 = applyRow r0 [] := by
      have q := ans_at (rows := rows) (C := C) (j := 0) (q := []) rfl
      rw [hans] at q
      exact (Option.some.inj q).trans q0
    have hat : ∀ i c, i < C → (c = 97 ∨ c = 98) → rest[2 * i + (if c = 97 then 0 else 1)]? = some (resultOf rows (List.replicate (i + 1) c)) := fun i c hi hc => by
      obtain ⟨t1, t2⟩ := tests_a C i hi
      rcases hc with rfl | rfl
      · have q := ans_at (rows := rows) t1
        rw [hans] at q
        simpa using q
      · have q := ans_at (rows := rows) t2
        rw [hans] at q
        simpa using q
    rw [hans] at ha2
    refine ⟨_, rfl, a, optV o0, rest.map optV, rfl, .inl (.inl ha2), by rw [List.length_map]; omega, fun p hp => ⟨_, _, rfl, _, _, rfl, rfl, ?_⟩⟩
    have e3 : Ex H (upd H2 p (.lst (rest.map optV))) := Ex.push (e1.trans e2) hp
    have hp3 : upd H2 p (.lst (rest.map optV)) p = some (.lst (rest.map optV)) := upd_same
    show C8.tCut _ _ _ _ (upd H2 p (.lst (rest.map optV)))
    generalize upd H2 p (.lst (rest.map optV)) = H3 at e3 hp3
    refine ⟨fun σ H' => ∃ (v0 : V) (rl : Addr), σ = [some (.int (C : Int)), some (.ref a), some (optV o0), some (.ref p), some (.ref rl), none] ∧ Ex H3 H' ∧ H3 rl = none ∧ H' rl = some (.lst [v0]) ∧ RowV H' v0 r0, ?_, ?_⟩
    · cases r0 with
      | none =>
        have eo : o0 = none := ho0
        subst eo
        exact ⟨_, rfl, rfl, _, rfl, ifT non_non ⟨one_size, fun rl hrl0 => ⟨_, rl, rfl, Ex.new hrl0, hrl0, upd_same, rfl⟩⟩⟩
      | some r0 =>
        obtain ⟨k0, w0⟩ := r0
        have hk : k0 = 0 := by have := (g0 k0 w0 rfl).1; omega
        subst hk
        have eo : o0 = some w0 := ho0
        subst eo
        refine ⟨_, rfl, rfl, _, rfl, ifF str_non ⟨_, rfl, two_size, fun t ht => ⟨one_size, fun rl hrl0 => ?_⟩⟩⟩
        have hne : t ≠ rl := fun z => by subst z; rw [upd_same] at hrl0; cases hrl0
        have hrl1 : H3 rl = none := by rw [upd_ne (Ne.symm hne)] at hrl0; exact hrl0
        exact ⟨_, rl, rfl, Ex.push (Ex.new ht) hrl0, hrl1, upd_same, t, rfl, by rw [upd_ne hne]; exact upd_same⟩
    · rintro σ H4 ⟨v0, rl, rfl, e4, hrl0, hrl, rv0⟩
      have en : ((C : Int) + 1 - 1).toNat = C := by omega
      refine tfor (walk_range (lo := 1) (n := C)) (fun R r => ⟨_, rfl, _, _, rfl, rfl, _, _, rfl, ⟨by omega, by omega, by omega, by omega⟩, by rw [en]; exact r⟩)
        (fun i σ H' => ∃ (vs : List V) (o : Option V), σ = [some (.int (C : Int)), some (.ref a), some (optV o0), some (.ref p), some (.ref rl), o] ∧ Ex H3 H' ∧ H' rl = some (.lst vs) ∧ RowsV H' vs (rows.take (i + 1)))
        ⟨[v0], none, rfl, e4, hrl, ?_⟩ (fun _ _ _ _ _ => trivial) ?_ ?_
      · rw [List.take_add_one, hr0]
        exact .cons rv0 .nil
      · rintro i y σ H5 H6 hi ⟨vs, o, rfl, e5, hvl, hvs⟩ ⟨rfl, rfl⟩
        obtain ⟨r, hr1, hg1, qa⟩ := resultOf_rep (c := 97) hg (show i + 1 ≤ C by omega)
        obtain ⟨r', hr2, _, qb⟩ := resultOf_rep (c := 98) hg (show i + 1 ≤ C by omega)
        have er : r' = r := Option.some.inj (hr2.symm.trans hr1)
        subst er
        have ga := hat i 97 hi (.inl rfl)
        have gb := hat i 98 hi (.inr rfl)
        rw [qa] at ga
        rw [qb] at gb
        have ha' : (rest.map optV)[2 * i]? = some (optV (applyRow r' (List.replicate (i + 1) 97))) := by rw [List.getElem?_map]; have : rest[2 * i]? = _ := ga; rw [this]; rfl
        have hb' : (rest.map optV)[2 * i + 1]? = some (optV (applyRow r' (List.replicate (i + 1) 98))) := by rw [List.getElem?_map]; have : rest[2 * i + 1]? = _ := gb; rw [this]; rfl
        have hp5 := e5 _ _ hp3
        have hle : vs.length ≤ C + 1 := by rw [Paired.len hvs, List.length_take, hg.len]; omega
        refine ⟨_, rfl, .inl ⟨rfl, _, SqL.of hvl⟩, ?_⟩
        refine ⟨_, rfl, _, rfl, _, rfl, _, _, rfl, rfl, .inl ⟨by decide, by decide⟩, _, _, rfl, rfl, p, _, _, _, rfl, rfl, SqL.of hp5, at_of (j := 2 * i) (by omega) ha', ?_⟩
        refine ⟨_, rfl, _, rfl, _, _, rfl, rfl, .inl ⟨by decide, by decide⟩, _, _, rfl, rfl, p, _, _, _, rfl, rfl, SqL.of hp5, at_of (j := 2 * i + 1) (by omega) hb', ?_⟩
        refine ⟨i + 1, r', C, by rw [show ((i + 1 : Nat) : Int) = 1 + (i : Int) by omega]; rfl, hg1, by omega, hC.2, fun v H7 e7 q7 => ?_⟩
        refine ⟨rl, vs, v, rfl, rfl, e7 _ _ hvl, Nat.lt_of_le_of_lt hle (Nat.lt_of_le_of_lt (show C + 1 ≤ 1000 by omega) (by decide)), ?_⟩
        refine ⟨vs ++ [v], _, rfl, Ex.mut (e5.trans e7) hrl0, upd_same, ?_⟩
        rw [List.take_add_one, hr1]
        have e8 : ExT H7 (upd H7 rl (.lst (vs ++ [v]))) := ExT.lst (e7 _ _ hvl)
        exact Paired.snoc (Paired.mapP hvs fun _ _ q => (q.mono e7).monoT e8) (q7.monoT e8)
      · rintro σ H5 ⟨vs, o, rfl, e5, hvl, hvs⟩
        rw [List.take_of_length_le (by rw [hg.len]; omega)] at hvs
        refine ⟨_, rfl, _, rfl, ?_⟩
        intro x dx hx hdx hne
        have ex := made_ex (o1 := .own x) (o2 := .ins (EC K) dx []) hx hdx hne
        refine ⟨x, dx, .ref rl, rows, C, rfl, upd_same, .inr (TabL.mono ex ⟨rl, vs, rfl, hvl, hvs⟩), hg, hC, fun H6 t h6 hxx ht => ⟨rfl, ?_⟩⟩
        exact k _ _ (make_ex (e3.trans e5) hx hdx h6) ⟨x, dx, t, rfl, hxx, ht⟩
end
end Fq

set_option Elab.async false
set_option linter.all false
set_option maxRecDepth 100000
set_option maxHeartbeats 4000000
namespace Fq
open PySem PySem.Spec PyProof.Rows L2
open Evl (Ex Ex.refl Ex.trans Ex.new Ex.mut fresh_back ex_l ex_t sq_of st_of)
section
variable {P : Program} {w : World} {K : PySem.W.Frag} {mg : Str → Option Value} {base : Heap}
def szOf (A B : List Row) (i : Nat) : Int := if A.getD i none = B.getD i none then 2 else 1
theorem paired_map {β : Type} {f : Nat → β} : ∀ {is : List Nat} {ys : List β}, Paired (fun i y => y = f i) is ys → is.map f = ys
  | _, _, .nil => rfl
  | _, _, .cons h t => by rw [List.map_cons, paired_map t, h]
theorem tell_cases (A B : List Row) : ∀ n s, (∃ j, s ≤ j ∧ j < s + n ∧ szOf A B j = 1 ∧ (∀ i, s ≤ i → i < j → szOf A B i = 2) ∧ tellFrom A B (List.range' s n) = ((j : Int), 1)) ∨ ((∀ i, s ≤ i → i < s + n → szOf A B i = 2) ∧ tellFrom A B (List.range' s n) = (0, 2))
  | 0, s => .inr ⟨fun i h1 h2 => absurd h2 (by omega), rfl⟩
  | n + 1, s => by
    rw [List.range'_succ, tellFrom]
    by_cases h : A.getD s none = B.getD s none
    · rw [if_neg (fun q => q h)]
      have e : szOf A B s = 2 := if_pos h
      rcases tell_cases A B n (s + 1) with ⟨j, h1, h2, h3, h4, h5⟩ | ⟨h1, h2⟩
      · refine .inl ⟨j, by omega, by omega, h3, fun i q1 q2 => ?_, h5⟩
        by_cases hi : i = s
        · rw [hi, e]
        · exact h4 i (by omega) q2
      · refine .inr ⟨fun i q1 q2 => ?_, h2⟩
        by_cases hi : i = s
        · rw [hi, e]
        · exact h1 i (by omega) (by omega)
    · rw [if_pos h]
      exact .inl ⟨s, by omega, by omega, if_neg h, fun i q1 q2 => absurd q1 (by omega), rfl⟩
theorem tell_spec {A B : List Row} {n : Nat} {m : Int} (hn : 0 < n) (hm : m ∈ (List.range n).map (szOf A B)) (hle : ∀ y ∈ (List.range n).map (szOf A B), m ≤ y) :
    ∃ j, j < n ∧ szOf A B j = m ∧ (∀ i, i < j → szOf A B i ≠ m) ∧ ((j : Int), m) = tellFrom A B (List.range n) := by
  have mem : ∀ i, i < n → szOf A B i ∈ (List.range n).map (szOf A B) := fun i hi => List.mem_map.mpr ⟨i, List.mem_range.mpr hi, rfl⟩
  obtain ⟨i0, hi0, e0⟩ := List.mem_map.mp hm
  have hi0 := List.mem_range.mp hi0
  rw [List.range_eq_range']
  rcases tell_cases A B n 0 with ⟨j, h1, h2, h3, h4, h5⟩ | ⟨h1, h2⟩
  · have em : m = 1 := by
      have q1 := hle _ (mem j (by omega))
      rw [h3] at q1
      unfold szOf at e0
      split at e0 <;> omega
    subst em
    exact ⟨j, by omega, h3, fun i hi => by rw [h4 i (Nat.zero_le _) hi]; decide, h5.symm⟩
  · have em : m = 2 := by rw [← e0]; exact h1 i0 (Nat.zero_le _) (by omega)
    subst em
    exact ⟨0, hn, h1 0 (Nat.le_refl _) (by omega), fun i hi => absurd hi (Nat.not_lt_zero _), h2.symm⟩
theorem check_capacities_scope : FnScope ["capacities", "one"] ["capacities"] (defScope s_check_capacities) := ⟨rfl, rfl, rfl, by decide +kernel, rfl, by decide +kernel, by decide +kernel⟩
theorem c_check_capacities (T : Tx K mg) (c_is_capacity : C8.Cal P w K mg base 2 "is_capacity" sp_is_capacity []) : C8.Cal P w K mg base 3 "check_capacities" sp_check_capacities [] := by
  obtain ⟨fd, F⟩ := T.d_check_capacities
  refine cal_of F T.m_check_capacities (binds_nil (ps := ["capacities"]) F fun _ _ _ _ _ _ us hl => match us, hl with | [_], _ => rfl) check_capacities_scope (fun vs H Q E h => ?_) (fun cdv A outer s H vs Q E hr h => ?_)
  · obtain ⟨a, c, d, rfl, _⟩ := h
    rfl
  · have sc := check_capacities_scope
    obtain ⟨a, c, d, rfl, ha, hc, hd, hne, k⟩ := h
    refine ⟨_, (pss_cons (ps_if (PW.pt (pw_or (pt_not (pt_val (pe_callB call_isi (by rfl) T.isinstance_ (by decide +kernel) (pa_cons (pv 0) (pa_cons (pe_bltn (v := .ty "list") (u := .type "list") (by rfl) T.list_ (by decide +kernel) rfl) pa_nil))))) (pw_or (pt_cmpR (op_eqD hr.units) (pv 0) (pe_lst pa_nil) (nomark _)) (pw_or1 (pt_not (pt_val (pe_callB (cr_all rfl) (by rfl) T.all_ (by decide +kernel) (pa_cons (pe_lc (own := [("one", 1)]) (g := gName 1) (tt := tYes) rfl sc.nd (pi_list (pv 0)) (blkOk_by (N := ["capacities", "one"]) (sc := defScope s_check_capacities) (by decide +kernel)) (fun _ _ _ _ _ => (pg_name (i := 1) sc.nd rfl (Or.inl rfl))) (fun _ _ _ _ _ => pts_nil) (fun _ _ _ _ _ => (C8.pe_c c_is_capacity hr (by decide) rfl (pa_cons (pv 1) pa_nil)))) pa_nil))))))))
    pss_never
    pss_nil)
    (pss_one (ps_if (pt_cmpR op_ne (pe_lenSetI rfl rfl T.len_ rfl T.set_ (pv 0)) (pe_callB call_len (by rfl) T.len_ (by decide +kernel) (pa_cons (pv 0) pa_nil)) (nomark _))
    pss_never
    pss_nil))), ?_⟩
    refine ⟨_, rfl, _, _, _, _, _, rfl, .ty _, .base (.lst ha), kit_lst_lst, _, rfl, ifF rfl ?_⟩
    refine ⟨_, rfl, Nat.zero_le _, fun q hq => ⟨.list [.int c, .int d], .list [], .lst (.inl (.inl (Ex.new hq _ _ ha))) (.cons (.int _) (.cons (.int _) .nil)), .lst (.inl (.inl upd_same)) .nil, rfl, rfl, _, rfl, ifF rfl ?_⟩⟩
    have ha1 := Ex.new (o := .lst []) hq _ _ ha
    refine ⟨_, rfl, a, rfl, ⟨_, .inl (.inl ha1)⟩, fun D hD => ?_⟩
    refine lc_gen (walk_list (K := K) (a := a) (xs := [.int (c : Int), .int (d : Int)])) hD (show 2 ≤ 100000 by decide) (fun H' e => .inl (.inl (e _ _ ha1))) (fun i H x H' y => by rw [y.1]; exact Ex.refl _) (fun _ => true) (fun i y H => y = .bl true) (fun i y H H' e q => q) ?_ fun ys H' e hy hp2 => ?_
    · intro i x H1 H2 Acc Nn hi e e2 y ka kn
      obtain ⟨rfl, hx⟩ := y
      have hx : ∃ n : Nat, x = .int (n : Int) ∧ 1 ≤ n ∧ n ≤ 100 := by
        match i, hx with
        | 0, hx => exact ⟨c, (Option.some.inj hx).symm, hc⟩
        | 1, hx => exact ⟨d, (Option.some.inj hx).symm, hd⟩
      obtain ⟨n, rfl, hn⟩ := hx
      refine ⟨rfl, tyes ?_⟩
      exact ⟨_, rfl, (n : Int), rfl, fun H3 e3 => ka rfl _ _ e3 (by rw [decide_eq_true (by omega)])⟩
    · refine ⟨D, [true, true], rfl, .inl (.inl (by
        rw [hy]
        refine congrArg (fun z => some (HO.lst z)) ?_
        have hlen : ys.length = 2 := by rw [← Paired.len hp2, filt_all]; rfl
        match ys, hlen, hp2 with
        | [y1, y2], _, .cons h1 (.cons h2 .nil) => rw [h1, h2]; rfl)), ?_⟩
      refine ⟨_, rfl, ifF rfl ?_⟩
      have ha2 := e _ _ ha1
      refine ⟨_, rfl, a, [(c : Int), (d : Int)], rfl, .inl (.inl ha2), (show 2 < 64 by decide), ?_, _, rfl, _, 2, rfl, .inl ⟨_, .inl (.inl ha2), rfl⟩, rfl, _, rfl, ifF rfl ?_⟩
      · refine List.nodup_cons.mpr ⟨fun q => ?_, List.nodup_cons.mpr ⟨fun q => (nomatch q), List.nodup_nil⟩⟩
        have := List.mem_singleton.mp q
        omega
      · exact k _ (Ex.trans (Ex.new hq) e)
theorem blk_relabel {N : List Str} {sc scope : Scope} {own : List (Str × Nat)} {env : Env} (h : BlkOk N sc scope own) (hc : (scope.names.all fun y => !decide (y.2 = .free) || decide (sc.names.lookup y.1 = some .cell)) = true) : BlkOk N (relabel sc env) scope own := by
  refine ⟨h.kind, h.uniq, h.ix, fun y hy e => .inl ?_, h.own⟩
  have q := List.all_eq_true.mp hc y hy
  rw [decide_eq_true e] at q
  have q : sc.names.lookup y.1 = some .cell := by simpa using q
  exact oc_lookup_relabel (by decide) q
def lcScope : Stmt → Scope
  | .Assign _ (.ListComp _ _ sc _) _ => sc
  | _ => default
theorem telling_length_scope : FnScope ["program", "mode", "capacities", "items", "tables", "sizes", "capacity", "length", "rows"] ["program", "mode", "capacities"] (defScope s_telling_length) := ⟨rfl, rfl, rfl, by decide +kernel, rfl, by decide +kernel, by decide +kernel⟩
theorem c_telling_length (T : Tx K mg) (c_check_capacities : C8.Cal P w K mg base 3 "check_capacities" sp_check_capacities []) (c_check_mode : C8.Cal P w K mg base 2 "check_mode" sp_check_mode []) (c_items_of : C8.Cal P w K mg base 3 "items_of" sp_items_of []) (c_largest_group : C8.Cal P w K mg base 1 "largest_group" sp_largest_group []) (c_rows_of : C8.Cal P w K mg base 5 "rows_of" (sp_rows_of 2) []) : C8.Cal P w K mg base 6 "telling_length" sp_telling_length [] := by
  obtain ⟨fd, F⟩ := T.d_telling_length
  refine cal_of F T.m_telling_length (binds_nil (ps := ["program", "mode", "capacities"]) F fun _ _ _ _ _ _ us hl => match us, hl with | [_, _, _], _ => rfl) telling_length_scope (fun vs H Q E h => ?_) (fun cdv A outer s H vs Q E hr h => ?_)
  · obtain ⟨p, m, a, c, d, rfl, _⟩ := h
    rfl
  · have sc := telling_length_scope
    obtain ⟨p, m, a, c, d, rfl, ok, ha, hc, hd, hne, k⟩ := h
    refine ⟨_, (pss_cons (ps_set (i := 3) sc.nd rfl (Or.inr rfl) (C8.pe_c c_items_of hr (by decide) rfl (pa_cons (pv 0) pa_nil)))
    (pss_cons (ps_expr (C8.pe_c c_check_mode hr (by decide) rfl (pa_cons (pv 1) pa_nil)))
    (pss_cons (ps_expr (C8.pe_c c_check_capacities hr (by decide) rfl (pa_cons (pv 2) pa_nil)))
    (pss_cons (ps_set (i := 4) sc.nd rfl (Or.inr rfl) (pe_lc (own := [("capacity", 6)]) (g := gName 6) (tt := tYes) rfl sc.nd (pi_list (pv 2)) (blkOk_by (N := ["program", "mode", "capacities", "items", "tables", "sizes", "capacity", "length", "rows"]) (sc := defScope s_telling_length) (by decide +kernel)) (fun _ _ _ _ _ => (pg_name (i := 6) sc.nd rfl (Or.inl rfl))) (fun _ _ _ _ _ => pts_nil) (fun _ _ _ _ _ => (C8.pe_c c_rows_of hr (by decide) rfl (pa_cons (pv 3) (pa_cons (pv 6) (pa_cons (pv 1) pa_nil)))))))
    (pss_cons (ps_setLc (i := 5) (own := [("length", 7)]) (g := gName 7) (tt := tYes) (te := tCall sp_largest_group [] C8.E0 (tCons (tLc (iList K (tVar 4)) (gName 8) tYes (tOp (rIxT K) (tVar 8) (tVar 7)) [8]) tNil)) rfl sc.nd rfl rfl (sw_true rfl rfl rfl (by decide +kernel)) (pi_range1 (by rfl) T.range_ (pa_cons (pe_op op_add (pe_callB (cr_min rfl) (by rfl) T.min_ (by decide +kernel) (pa_cons (pv 2) pa_nil)) pe_int) pa_nil)) (blkOk_by (N := ["program", "mode", "capacities", "items", "tables", "sizes", "capacity", "length", "rows"]) (sc := defScope s_telling_length) (by decide +kernel)) (fun _ _ _ _ _ => (pg_name (i := 7) sc.nd rfl (Or.inr rfl))) (fun _ _ _ _ _ => pts_nil) (fun _ _ _ _ _ => (C8.pe_c c_largest_group hr (by decide) rfl (pa_cons (pe_lc (own := [("rows", 8)]) (g := gName 8) (tt := tYes) (te := tOp (rIxT K) (tVar 8) (tVar 7)) (wi := iList K (tVar 4)) rfl sc.nd (pi_list (pv 4)) (blk_relabel (sc := lcScope ((defBody s_telling_length).getD 4 default)) (blkOk_by (N := ["program", "mode", "capacities", "items", "tables", "sizes", "capacity", "length", "rows"]) (by decide +kernel)) (by decide +kernel)) (fun _ _ _ _ _ => (pg_name (i := 8) sc.nd rfl (Or.inl rfl))) (fun _ _ _ _ _ => pts_nil) (fun _ _ _ _ _ => (pe_ix ix_tup (pv 8) (pv 7) (fun _ _ => rfl)))) pa_nil))))
    (pss_one (ps_ret (pe_tup (pa_cons (pe_bm PySem.F.plainAttrs_list PySem.F.slot_list_index PySem.F.type_list_index mt_index (pv 5) (pa_cons (pe_callB (cr_min rfl) (by rfl) T.min_ (by decide +kernel) (pa_cons (pv 5) pa_nil)) pa_nil)) (pa_cons (pe_callB (cr_min rfl) (by rfl) T.min_ (by decide +kernel) (pa_cons (pv 5) pa_nil)) pa_nil)))))))))), ?_⟩
    refine ⟨_, rfl, p, rfl, ok, fun v1 H1 e1 q1 => ?_⟩
    refine ⟨_, rfl, m, rfl, fun H2 e2 => ?_⟩
    have ha2 := e2 _ _ (e1 _ _ ha)
    refine ⟨_, rfl, a, c, d, rfl, ha2, hc, hd, hne, fun H3 e3 => ?_⟩
    have ha3 := e3 _ _ ha2
    have q3 := q1.mono (e2.trans e3)
    have e13 := (e1.trans e2).trans e3
    have eA := okRows_of (m := m) hc.1 p.its
    have eB := okRows_of (m := m) hd.1 p.its
    have sA : ∀ k w, ∀ r ∈ rowsOf p.its c m, r = some (k, w) → w.length ≤ 1000 := fun k w r hr e => by
      have := eA.ok r hr k w e
      omega
    have sB : ∀ k w, ∀ r ∈ rowsOf p.its d m, r = some (k, w) → w.length ≤ 1000 := fun k w r hr e => by
      have := eB.ok r hr k w e
      omega
    -- the tables
    refine ⟨_, rfl, a, rfl, ⟨_, .inl (.inl ha3)⟩, fun D hD => ?_⟩
    have stay : ∀ {H H' : Hp} {y : V} {rs : List Row}, ExT H H' → TabV H y rs → TabV H' y rs := fun e q => q.u fun b xs q2 => e b _ (fun _ z => nomatch z) q2
    refine lc_gen (walk_list (K := K) (a := a) (xs := [.int (c : Int), .int (d : Int)])) hD (show 2 ≤ 100000 by decide) (fun H' e => .inl (.inl (e _ _ ha3))) (fun i H x H' y => by rw [y.1]; exact Ex.refl _) (fun _ => true)
      (fun i y H => (i = 0 → TabV H y (rowsOf p.its c m)) ∧ (i = 1 → TabV H y (rowsOf p.its d m))) (fun i y H H' e q => ⟨fun z => stay e (q.1 z), fun z => stay e (q.2 z)⟩) ?_ fun ts H4 e4 hts hp2 => ?_
    · intro i x H1 H2 Acc Nn hi e e2 y ka kn
      obtain ⟨rfl, hx⟩ := y
      have q4 := q3.mono e
      match i, hx, ka with
      | 0, hx, ka =>
        have ex : x = .int (c : Int) := (Option.some.inj hx).symm
        subst ex
        refine ⟨rfl, tyes ⟨_, rfl, _, rfl, _, rfl, v1, p.its, c, m, rfl, q4, trivial, its_ok ok, hc, fun v4 H4 e4 q => ka rfl _ _ e4 ⟨fun _ => q, fun z => absurd z (by decide)⟩⟩⟩
      | 1, hx, ka =>
        have ex : x = .int (d : Int) := (Option.some.inj hx).symm
        subst ex
        refine ⟨rfl, tyes ⟨_, rfl, _, rfl, _, rfl, v1, p.its, d, m, rfl, q4, trivial, its_ok ok, hd, fun v4 H4 e4 q => ka rfl _ _ e4 ⟨fun z => absurd z (by decide), fun _ => q⟩⟩⟩
    obtain ⟨t1, t2, rfl, ht1, ht2⟩ : ∃ t1 t2, ts = [t1, t2] ∧ TabV H4 t1 (rowsOf p.its c m) ∧ TabV H4 t2 (rowsOf p.its d m) := by
      rw [filt_all] at hp2
      have hlen : ts.length = 2 := by rw [← Paired.len hp2]; rfl
      match ts, hlen, hp2 with
      | [t1, t2], _, .cons h1 (.cons h2 .nil) => exact ⟨t1, t2, rfl, h1.1 rfl, h2.2 rfl⟩
    have ha4 := e4 _ _ ha3
    have e14 := e13.trans e4
    -- the sizes
    refine ⟨_, rfl, a, [(c : Int), (d : Int)], rfl, .inl (.inl ha4), (show 0 < 2 by decide), fun m0 hm0 hle => ?_⟩
    have em0 : m0 = ((min c d : Nat) : Int) := by
      have h1 := hle (c : Int) (by simp)
      have h2 := hle (d : Int) (by simp)
      have h3 : m0 = (c : Int) ∨ m0 = (d : Int) := by simpa using hm0
      omega
    subst em0
    refine ⟨_, _, rfl, rfl, _, rfl, by omega, by omega, fun D2 hD2 => ?_⟩
    rw [show (((min c d : Nat) : Int) + 1).toNat = min c d + 1 by omega]
    refine lc_gen (walk_range (lo := 0) (n := min c d + 1)) hD2 (by omega) (fun H' e => trivial) (fun i H x H' y => by rw [y.1]; exact Ex.refl _) (fun _ => true)
      (fun i y H => y = .int (szOf (rowsOf p.its c m) (rowsOf p.its d m) i)) (fun i y H H' e q => q) ?_ fun ys H5 e5 hys hp3 => ?_
    · intro i x H6 H7 Acc Nn hi e6 e7 y ka kn
      obtain ⟨rfl, rfl⟩ := y
      have hts6 := e6 _ _ hts
      have g1 : i < (rowsOf p.its c m).length := by rw [eA.len]; omega
      have g2 : i < (rowsOf p.its d m).length := by rw [eB.len]; omega
      have ht1' := ht1.mono e6
      have ht2' := ht2.mono e6
      obtain ⟨b1, vs1, rfl, hb1, hv1⟩ := ht1'
      obtain ⟨b2, vs2, rfl, hb2, hv2⟩ := ht2'
      obtain ⟨x1, hx1, rx1⟩ := Paired.at' hv1 (List.getElem?_eq_getElem g1)
      obtain ⟨x2, hx2, rx2⟩ := Paired.at' hv2 (List.getElem?_eq_getElem g2)
      refine ⟨rfl, tyes ?_⟩
      refine ⟨_, rfl, D, rfl, ⟨_, .inl (.inl hts6)⟩, fun D3 hD3 => ?_⟩
      refine lc_gen (walk_list (K := K) (a := D) (xs := [.ref b1, .ref b2])) hD3 (show 2 ≤ 100000 by decide) (fun H' e => .inl (.inl (e _ _ hts6))) (fun i H x H' y => by rw [y.1]; exact Ex.refl _) (fun _ => true)
        (fun j y H => (j = 0 → y = x1) ∧ (j = 1 → y = x2)) (fun i y H H' e q => q) ?_ fun zs H8 e8 hzs hp4 => ?_
      · intro j z H9 H10 Acc2 Nn2 hj e9 e10 y2 ka2 kn2
        obtain ⟨rfl, hz⟩ := y2
        match j, hz, ka2 with
        | 0, hz, ka2 =>
          have ez : z = .ref b1 := (Option.some.inj hz).symm
          subst ez
          exact ⟨rfl, tyes ⟨_, rfl, _, rfl, b1, vs1, _, _, rfl, rfl, .inl (.inl (e9 _ _ hb1)), at_of (j := i) (by omega) hx1, ka2 rfl _ _ (Ex.refl _) ⟨fun _ => rfl, fun z => absurd z (by decide)⟩⟩⟩
        | 1, hz, ka2 =>
          have ez : z = .ref b2 := (Option.some.inj hz).symm
          subst ez
          exact ⟨rfl, tyes ⟨_, rfl, _, rfl, b2, vs2, _, _, rfl, rfl, .inl (.inl (e9 _ _ hb2)), at_of (j := i) (by omega) hx2, ka2 rfl _ _ (Ex.refl _) ⟨fun z => absurd z (by decide), fun _ => rfl⟩⟩⟩
      · obtain rfl : zs = [x1, x2] := by
          rw [filt_all] at hp4
          have hlen : zs.length = 2 := by rw [← Paired.len hp4]; rfl
          match zs, hlen, hp4 with
          | [z1, z2], _, .cons h1 (.cons h2 .nil) => rw [h1.1 rfl, h2.2 rfl]
        refine ⟨.ref D3, D3, x1, x2, (rowsOf p.its c m)[i], (rowsOf p.its d m)[i], rfl, hzs, rx1.mono e8, rx2.mono e8, ((goodRows_of hc.1 (its_ok ok)).ok i _ (List.getElem?_eq_getElem g1)).signs, ((goodRows_of hd.1 (its_ok ok)).ok i _ (List.getElem?_eq_getElem g2)).signs, fun H11 e11 => ?_⟩
        refine ka rfl _ _ (e8.trans e11) ?_
        unfold szOf
        rw [List.getD_eq_getElem?_getD, List.getD_eq_getElem?_getD, List.getElem?_eq_getElem g1, List.getElem?_eq_getElem g2, Option.getD_some, Option.getD_some]
    -- the answer
    have hys' : ys = ((List.range (min c d + 1)).map (szOf (rowsOf p.its c m) (rowsOf p.its d m))).map V.int := by
      rw [filt_all] at hp3
      rw [List.map_map]
      exact (paired_map hp3).symm
    subst hys'
    have hz : SqL K H5 D2 (((List.range (min c d + 1)).map (szOf (rowsOf p.its c m) (rowsOf p.its d m))).map V.int) := .inl (.inl hys)
    have e15 := e14.trans e5
    refine ⟨_, rfl, .inl ⟨rfl, _, hz⟩, _, rfl, D2, _, rfl, hz, by simp, fun m1 hm1 hle1 => ?_⟩
    obtain ⟨j, hj, hm, hbef, htell⟩ := tell_spec (A := rowsOf p.its c m) (B := rowsOf p.its d m) (n := min c d + 1) (by omega) hm1 hle1
    refine ⟨D2, _, .int m1, j, .int m1, rfl, rfl, hz, rfl, List.all_eq_true.mpr fun z hz => by obtain ⟨q, _, rfl⟩ := List.mem_map.mp hz; rfl, ?_, by simp [eqV], fun m2 z' h1 h2 => ?_, ?_⟩
    · rw [List.getElem?_map, List.getElem?_map, List.getElem?_range hj, ← hm]
      rfl
    · rw [List.getElem?_map, List.getElem?_map, List.getElem?_range (by omega)] at h2
      cases h2
      have := hbef m2 h1
      simpa [eqV] using this
    · refine ⟨_, rfl, D2, _, rfl, hz, by simp, fun m2 hm2 hle2 => ?_⟩
      have em : m2 = m1 := Int.le_antisymm (hle2 _ hm1) (hle1 _ hm2)
      subst em
      refine ⟨two_size, fun q hq => k _ _ (Ex.push e15 hq) ?_⟩
      unfold telling
      rw [← htell]
      exact ⟨q, rfl, upd_same⟩
end
end Fq

set_option Elab.async false
set_option linter.all false
set_option maxRecDepth 100000
set_option maxHeartbeats 4000000
namespace Fq
open PySem PySem.Spec PyProof.Rows L2
open Evl (Ex Ex.refl Ex.trans Ex.new Ex.mut fresh_back ex_l ex_t sq_of st_of)
section
variable {P : Program} {w : World} {K : PySem.W.Frag} {mg : Str → Option Value} {base : Heap}
theorem b01 (b : Bool) : -(2 ^ 64) < (if b = true then (1 : Int) else 0) ∧ (if b = true then (1 : Int) else 0) < 2 ^ 64 ∧ 0 ≤ (if b = true then (1 : Int) else 0) := by cases b <;> decide
theorem dp_ints {K : PySem.W.Frag} {H : Hp} : ∀ ns : List Int, DpAll K H (ns.map V.int) (ns.map PyData.int)
  | [] => .nil
  | n :: ns => .cons (.int n) (dp_ints ns)
theorem lay_ints : ∀ ns : List Int, PyData.canLayAll0 (ns.map PyData.int) = true
  | [] => rfl
  | n :: ns => by
    rw [List.map_cons, PyData.canLayAll0, lay_ints ns]
    rfl
theorem depth_ints : ∀ ns : List Int, PyData.depthAll (ns.map PyData.int) = 0
  | [] => rfl
  | n :: ns => by
    rw [List.map_cons, PyData.depthAll, depth_ints ns]
    rfl
theorem shaped_ints (ns : List Int) : SeqAt.shaped (.list (ns.map PyData.int)) = true := by
  unfold SeqAt.shaped
  rw [PyData.canLay0, lay_ints, PyData.depth, depth_ints]
  rfl
theorem eqv_ints : ∀ a b : List Int, PyData.eqvAll (a.map PyData.int) (b.map PyData.int) = decide (a = b)
  | [], [] => rfl
  | [], _ :: _ => rfl
  | _ :: _, [] => rfl
  | x :: a, y :: b => by
    rw [List.map_cons, List.map_cons, PyData.eqvAll, eqv_ints a b, Bool.eq_iff_iff]
    simp [PyData.eqv]
theorem law_pool_scope : FnScope ["_law_script", "_law_k", "_law_cell", "_law_seed"] ["_law_script", "_law_k"] (defScope s_law_pool) := ⟨rfl, rfl, rfl, by decide +kernel, rfl, by decide +kernel, by decide +kernel⟩
theorem c_law_pool (T : Tx K mg)  : C8.Cal P w K mg base 1 "_law_pool" (sp_law_pool K) [] := by
  obtain ⟨fd, F⟩ := T.d_law_pool
  refine cal_of F T.m_law_pool (binds_nil (ps := ["_law_script", "_law_k"]) F fun _ _ _ _ _ _ us hl => match us, hl with | [_, _], _ => rfl) law_pool_scope (fun vs H Q E h => ?_) (fun cdv A outer s H vs Q E hr h => ?_)
  · obtain ⟨a, ns, k, rfl, _⟩ := h
    rfl
  · have sc := law_pool_scope
    obtain ⟨a, ns, k, rfl, hs, hlen, hk, k2⟩ := h
    refine ⟨_, (pss_cons (ps_set (i := 2) sc.nd rfl (Or.inl rfl) pe_int)
    (pss_cons (ps_if (pt_cmpR (op_neD hr.units) (pv 0) (pe_lst pa_nil) (nomark _))
    (pss_one (ps_set (i := 2) sc.nd rfl (Or.inl rfl) (pe_ix ix_list (pv 0) (pe_op op_mod (pv 1) (pe_callB call_len (by rfl) T.len_ (by decide +kernel) (pa_cons (pv 0) pa_nil))) (fun _ _ => rfl))))
    pss_nil)
    (pss_cons (ps_set (i := 3) sc.nd rfl (Or.inl rfl) (pe_op op_mod (pe_op op_mul (pe_op op_add (pe_op op_add (pe_op op_mod (pv 2) pe_int) (pe_op op_mul pe_int (pv 1))) pe_int) pe_int) pe_int))
    (pss_one (ps_ret (pe_lst (pa_cons (pe_op op_mul (pe_callB call_abs (by rfl) T.abs_ (by decide +kernel) (pa_cons (pv 2) pa_nil)) (pe_callTy call_int1 (by rfl) T.int_ (by decide +kernel) (pa_cons (pe_cmpR op_ge (pe_callB call_abs (by rfl) T.abs_ (by decide +kernel) (pa_cons (pv 2) pa_nil)) (pe_op op_pow pe_int pe_int) (nomark _)) pa_nil))) (pa_cons (pv 3) pa_nil)))))))), ?_⟩
    have go : ∀ (cell : Int) (H1 : Hp), Ex H H1 → tSeq (tAsg (tOp (rI (fun _ j => 0 < j) fun i j => .int (i % j)) (tOp (rI CMul fun i j => .int (i * j)) (tOp (rI0 fun i j => .int (i + j)) (tOp (rI0 fun i j => .int (i + j)) (tOp (rI (fun _ j => 0 < j) fun i j => .int (i % j)) (tVar 2) (tC (.int 2147483629))) (tOp (rI CMul fun i j => .int (i * j)) (tC (.int 50021)) (tVar 1))) (tC (.int 13))) (tC (.int 48271))) (tC (.int 2147483647))) (gName 3))
        (tRet (tLst (tCons (tOp (rI CMul fun i j => .int (i * j)) (tCB (fun xs H Q => ∃ i, xs = [.int i] ∧ Q (.int (if i < 0 then -i else i)) H) (tCons (tVar 2) tNil)) (tCB (fun xs H Q => (∃ i, xs = [.int i] ∧ Q (.int i) H) ∨ ∃ k, xs = [.bl k] ∧ Q (.int (if k then 1 else 0)) H) (tCons (tOp (rI0 fun i j => .bl (decide (j ≤ i))) (tCB (fun xs H Q => ∃ i, xs = [.int i] ∧ Q (.int (if i < 0 then -i else i)) H) (tCons (tVar 2) tNil)) (tOp (rI CPow fun i j => .int (i ^ j.toNat)) (tC (.int 10)) (tC (.int 18)))) tNil))) (tCons (tVar 3) tNil))))
        { nx := fun _ H' => Q .non H', rt := Q } [some (.ref a), some (.int k), some (.int cell), none] H1 := fun cell H1 e1 => by
      refine ⟨_, rfl, _, _, rfl, rfl, (by show (0 : Int) < 2147483629; decide), _, rfl, _, _, rfl, rfl, .inl ⟨by decide, by decide⟩, _, _, rfl, rfl, _, _, rfl, rfl, _, _, rfl, rfl, .inr ⟨by decide, by decide⟩, _, _, rfl, rfl, (by show (0 : Int) < 2147483647; decide), ?_⟩
      refine ⟨_, rfl, _, rfl, _, rfl, _, rfl, _, _, rfl, rfl, ⟨by decide, by decide, by decide⟩, _, _, rfl, rfl, .inr ⟨_, rfl, _, _, rfl, rfl, .inr ⟨?_, ?_⟩, _, rfl, two_size, fun p hp => ?_⟩⟩
      · exact (b01 _).1
      · exact (b01 _).2.1
      refine k2 p _ (Ex.push e1 hp) (fresh_back e1 hp) ⟨_, _, upd_same, ?_, Int.emod_nonneg _ (by decide), Int.emod_lt_of_pos _ (by decide)⟩
      refine Int.mul_nonneg ?_ ?_
      · split <;> omega
      · exact (b01 _).2.2
    refine ⟨_, rfl, Nat.zero_le _, fun q hq => ⟨.list (ns.map PyData.int), .list [], .lst (ex_l (Ex.new hq) hs) (dp_ints ns), .lst (.inl (.inl upd_same)) .nil, shaped_ints ns, rfl, _, rfl, ?_⟩⟩
    have e1 : Ex H (upd H q (.lst [])) := Ex.new hq
    cases ns with
    | nil => exact ifF rfl (go 0 _ e1)
    | cons n ns =>
      have hlen : ((n :: ns).map V.int).length = ns.length + 1 := by simp
      refine ifT rfl ?_
      obtain ⟨j, hj⟩ : ∃ j : Nat, k % ((((n :: ns).map V.int).length : Nat) : Int) = (j : Int) := ⟨_, (Int.toNat_of_nonneg (Int.emod_nonneg _ (by rw [hlen]; omega))).symm⟩
      have hlt : j < (n :: ns).length := by
        have := Int.emod_lt_of_pos k (show (0 : Int) < ((((n :: ns).map V.int).length : Nat) : Int) by rw [hlen]; omega)
        rw [hj, hlen] at this
        simp only [List.length_cons]
        omega
      have hit : ((n :: ns).map V.int)[j]? = some (V.int (n :: ns)[j]) := by
        rw [List.getElem?_map, List.getElem?_eq_getElem hlt]
        rfl
      exact ⟨_, rfl, _, rfl, _, rfl, _, _, rfl, .inl ⟨_, ex_l e1 hs, rfl⟩, _, _, rfl, rfl, (by rw [hlen]; omega), a, _, _, V.int (n :: ns)[j], rfl, rfl, ex_l e1 hs, at_of hj hit, go _ _ e1⟩
theorem law_take_scope : FnScope ["_law_pool_here", "_law_bound", "_law_digit"] ["_law_pool_here", "_law_bound"] (defScope s_law_take) := ⟨rfl, rfl, rfl, by decide +kernel, rfl, by decide +kernel, by decide +kernel⟩
theorem c_law_take (T : Tx K mg)  : C8.Cal P w K mg base 1 "_law_take" sp_law_take [] := by
  obtain ⟨fd, F⟩ := T.d_law_take
  refine cal_of F T.m_law_take (binds_nil (ps := ["_law_pool_here", "_law_bound"]) F fun _ _ _ _ _ _ us hl => match us, hl with | [_, _], _ => rfl) law_take_scope (fun vs H Q E h => ?_) (fun cdv A outer s H vs Q E hr h => ?_)
  · obtain ⟨p, bd, rfl, _⟩ := h
    rfl
  · have sc := law_take_scope
    obtain ⟨p, bd, rfl, hp, h1, h2, k⟩ := h
    refine ⟨_, (pss_cons (ps_if (pt_cmpR op_gt (pe_ix ix_list (pv 0) pe_int (fun _ _ => rfl)) pe_int (nomark _))
    (pss_cons (ps_set (i := 2) sc.nd rfl (Or.inl rfl) (pe_op op_mod (pe_ix ix_list (pv 0) pe_int (fun _ _ => rfl)) (pv 1)))
      (pss_cons (ps_asg (pe_op op_fdivW (pe_ix ix_list (pv 0) pe_int (fun _ _ => rfl)) (pv 1)) (pg_sub (pv 0) pe_int set_list))
      (pss_one (ps_ret (pv 2)))))
    pss_nil)
    (pss_cons (ps_asg (pe_op op_mod (pe_op op_add (pe_op op_mul (pe_ix ix_list (pv 0) pe_int (fun _ _ => rfl)) pe_int) pe_int) pe_int) (pg_sub (pv 0) pe_int set_list))
    (pss_one (ps_ret (pe_op op_mod (pe_op op_fdiv (pe_op op_mod (pe_op op_mul (pe_ix ix_list (pv 0) pe_int (fun _ _ => rfl)) (pe_ix ix_list (pv 0) pe_int (fun _ _ => rfl))) pe_int) pe_int) (pv 1)))))), ?_⟩
    obtain ⟨b, s, hp, hb, hs, hs2⟩ := hp
    refine ⟨_, rfl, p, _, _, _, rfl, rfl, .inl (.inl hp), at0, _, _, rfl, rfl, _, rfl, ifD (fun c => ?_) fun c => ?_⟩
    · refine ⟨_, rfl, p, _, _, _, rfl, rfl, .inl (.inl hp), at0, _, rfl, _, _, rfl, rfl, (by show (0 : Int) < bd; omega), ?_⟩
      refine ⟨_, rfl, p, _, _, _, rfl, rfl, .inl (.inl hp), at0, _, rfl, _, _, rfl, rfl, wide_div (b := 100) (by omega) (by have : (10 : Int) ^ 30 < 2 ^ 100 := (by decide); omega) (by decide) (by decide), _, rfl, p, _, _, 0, rfl, rfl, hp, rfl, ?_⟩
      refine ⟨_, rfl, k _ _ ExB.upd ⟨b / bd, s, upd_same, Int.ediv_nonneg hb (by omega), hs, hs2⟩ (Int.emod_nonneg _ (by omega)) (Int.emod_lt_of_pos _ (by omega))⟩
    · refine ⟨_, rfl, p, _, _, _, rfl, rfl, .inl (.inl hp), at1, _, _, rfl, rfl, .inr ⟨by decide, by decide⟩, _, _, rfl, rfl, _, _, rfl, rfl, (by show (0 : Int) < 2147483647; decide), _, rfl, p, _, _, 1, rfl, rfl, hp, rfl, ?_⟩
      have hp2 : upd H p (.lst [.int b, .int ((s * 48271 + 11) % 2147483647)]) p = some (.lst [.int b, .int ((s * 48271 + 11) % 2147483647)]) := upd_same
      have g1 : 0 ≤ (s * 48271 + 11) % 2147483647 := Int.emod_nonneg _ (by decide)
      have g2 : (s * 48271 + 11) % 2147483647 < 2147483647 := Int.emod_lt_of_pos _ (by decide)
      refine ⟨_, rfl, p, _, _, _, rfl, rfl, .inl (.inl hp2), at1, _, rfl, p, _, _, _, rfl, rfl, .inl (.inl hp2), at1, _, _, rfl, rfl, .inl ⟨by omega, by omega⟩, _, _, rfl, rfl, (by show (0 : Int) < 2147483629; decide), _, _, rfl, rfl, ⟨by decide, by decide⟩, _, rfl, _, _, rfl, rfl, (by show (0 : Int) < bd; omega), ?_⟩
      exact k _ _ ExB.upd ⟨b, _, hp2, hb, g1, g2⟩ (Int.emod_nonneg _ (by omega)) (Int.emod_lt_of_pos _ (by omega))
theorem takes_S : ("--" : Str) = SX.S [45, 45] := by decide +kernel
theorem law_steps_scope : FnScope ["_law_pool_here", "_law_most", "_law_letters", "_law_found", "_law_turn"] ["_law_pool_here", "_law_most", "_law_letters"] (defScope s_law_steps) := ⟨rfl, rfl, rfl, by decide +kernel, rfl, by decide +kernel, by decide +kernel⟩
theorem c_law_steps (T : Tx K mg) (c_law_take : C8.Cal P w K mg base 1 "_law_take" sp_law_take []) : C8.Cal P w K mg base 2 "_law_steps" sp_law_steps [] := by
  obtain ⟨fd, F⟩ := T.d_law_steps
  refine cal_of F T.m_law_steps (binds_nil (ps := ["_law_pool_here", "_law_most", "_law_letters"]) F fun _ _ _ _ _ _ us hl => match us, hl with | [_, _, _], _ => rfl) law_steps_scope (fun vs H Q E h => ?_) (fun cdv A outer s H vs Q E hr h => ?_)
  · obtain ⟨p, most, L, rfl, _⟩ := h
    rfl
  · have sc := law_steps_scope
    obtain ⟨p, most, L, rfl, hp, hm, hL, hLl, k⟩ := h
    refine ⟨_, (pss_cons (ps_set (i := 3) sc.nd rfl (Or.inl rfl) pe_str)
    (pss_cons (ps_for PassesOwn.never rfl (pi_range1 (by rfl) T.range_ (pa_cons (C8.pe_c c_law_take hr (by decide) rfl (pa_cons (pv 0) (pa_cons (pe_op op_add (pv 1) pe_int) pa_nil))) pa_nil)) (pg_name (i := 4) sc.nd rfl (Or.inl rfl))
    (pss_one (ps_set (i := 3) sc.nd rfl (Or.inl rfl) (pe_op op_add_str (pv 3) (pe_ix ix_str (pe_op op_add_str (pv 2) pe_str) (C8.pe_c c_law_take hr (by decide) rfl (pa_cons (pv 0) (pa_cons (pe_op op_add (pe_callB call_len (by rfl) T.len_ (by decide +kernel) (pa_cons (pv 2) pa_nil)) pe_int) pa_nil))) (fun _ _ => rfl))))))
    (pss_one (ps_ret (pv 3))))), ?_⟩
    refine tset_c ?_
    refine ⟨_, rfl, _, rfl, _, _, rfl, rfl, p, (most : Int) + 1, rfl, hp, by omega, by omega, fun n H1 e1 hp1 h0 h1 => ?_⟩
    obtain ⟨m, rfl⟩ : ∃ m : Nat, n = (m : Int) := ⟨n.toNat, (Int.toNat_of_nonneg h0).symm⟩
    refine ⟨_, rfl, by omega, by omega, ?_⟩
    rw [Int.toNat_natCast]
    refine for_it (D := { nx := _, rt := _ }) (walk_range (lo := 0) (n := m))
      (fun i σ H' => ∃ (t : List Nat) (o : Option V), σ = [some (.ref p), some (.int (most : Int)), some (.str (SX.S L)), some (.str (SX.S t)), o] ∧ ExB p H H' ∧ PoolV H' p ∧ t.length = i ∧ ∀ c ∈ t, Step c)
      ⟨[], none, by rw [← empty_S]; rfl, e1, hp1, rfl, fun c hc => nomatch hc⟩ (fun _ _ _ _ _ => trivial) ?_ ?_
    · rintro i y σ H2 H3 hi ⟨t, o, rfl, e2, hp2, htl, hts⟩ ⟨rfl, rfl⟩
      refine ⟨_, rfl, _, rfl, _, _, rfl, rfl, Sle2 (a := L) (b := [45, 45]) (by omega) (by decide), _, rfl, _, rfl, _, _, rfl, ⟨Sle (by omega), rfl⟩, _, _, rfl, rfl, p, _, rfl, hp2, by omega, by rw [Slen]; omega, fun n H4 e4 hp4 h2 h3 => ?_⟩
      have hl2 : (L ++ [45, 45]).length = L.length + 2 := by simp
      obtain ⟨j, rfl⟩ : ∃ j : Nat, n = (j : Int) := ⟨n.toNat, (Int.toNat_of_nonneg h2).symm⟩
      rw [Slen] at h3
      have hj : j < (L ++ [45, 45]).length := by rw [hl2]; omega
      have est : SX.S L ++ ("--" : Str) = SX.S (L ++ [45, 45]) := by rw [takes_S, Scat]
      refine ⟨_, _, (L ++ [45, 45])[j], rfl, rfl, ?_, ?_, ?_⟩
      · rw [est]
        exact Sle (by rw [hl2]; omega)
      · rw [est]
        exact S_at rfl (List.getElem?_eq_getElem hj)
      refine ⟨_, _, rfl, rfl, Sle2 (a := t) (b := [(L ++ [45, 45])[j]]) (by omega) (by simp), ?_⟩
      refine ⟨t ++ [(L ++ [45, 45])[j]], some (.int (0 + (i : Int))), ?_, e2.trans e4, hp4, by simp; omega, fun c hc => ?_⟩
      · rw [← Scat]
        rfl
      · rcases List.mem_append.mp hc with q | q
        · exact hts c q
        · rw [List.mem_singleton.mp q]
          rcases List.mem_append.mp (List.getElem_mem hj) with q | q
          · exact .inl (hL _ q)
          · exact .inr (by simpa using q)
    · rintro σ H2 ⟨t, o, rfl, e2, hp2, htl, hts⟩
      exact ⟨_, rfl, k t _ e2 hp2 (by omega) hts⟩
end
end Fq

set_option Elab.async false
set_option linter.all false
set_option maxRecDepth 100000
set_option maxHeartbeats 4000000
namespace Fq
open PySem PySem.Spec PyProof.Rows L2
open Evl (Ex Ex.refl Ex.trans Ex.new Ex.mut fresh_back ex_l ex_t sq_of st_of)
section
variable {P : Program} {w : World} {K : PySem.W.Frag} {mg : Str → Option Value} {base : Heap}
theorem cut_to {xs : List V} {n : Nat} (h : n ≤ xs.length) : cutV xs none (some (n : Int)) = xs.take n := by
  have e : HT.sIx xs.length xs.length (some (n : Int)) = n := by rw [HT.sIx_nat]; omega
  unfold cutV
  rw [e]
  show (xs.drop 0).take (n - 0) = _
  rw [List.drop_zero, Nat.sub_zero]
theorem cut_from {xs : List V} {n : Nat} {i : Int} (hi : i = (n : Int)) (h : n ≤ xs.length) : cutV xs (some i) none = xs.drop n := by
  subst hi
  have e : HT.sIx xs.length 0 (some (n : Int)) = n := by rw [HT.sIx_nat]; omega
  unfold cutV
  rw [e]
  show (xs.drop n).take (xs.length - n) = _
  exact List.take_of_length_le (by rw [List.length_drop]; omega)
theorem paired_take {α β : Type} {F : α → β → Prop} : ∀ {xs : List α} {ys : List β} (n : Nat), Paired F xs ys → Paired F (xs.take n) (ys.take n)
  | _, _, 0, _ => .nil
  | _, _, _ + 1, .nil => .nil
  | _, _, n + 1, .cons r t => .cons r (paired_take n t)
theorem paired_drop {α β : Type} {F : α → β → Prop} : ∀ {xs : List α} {ys : List β} (n : Nat), Paired F xs ys → Paired F (xs.drop n) (ys.drop n)
  | _, _, 0, h => h
  | _, _, _ + 1, .nil => .nil
  | _, _, n + 1, .cons _ t => paired_drop n t
theorem not_whole_to {len n : Nat} (h : n < len) : ¬ (HT.sIx len 0 none = 0 ∧ HT.sIx len len (some (n : Int)) = len) := fun q => by
  have := q.2
  rw [HT.sIx_nat] at this
  omega
theorem not_whole_from {len n : Nat} (h0 : 0 < len) : ¬ (HT.sIx len 0 (some ((n : Int) + 1)) = 0 ∧ HT.sIx len len none = len) := fun q => by
  have := q.1
  rw [show (n : Int) + 1 = ((n + 1 : Nat) : Int) by omega, HT.sIx_nat] at this
  omega
/-- the three parts joined, the new row in the middle -/
theorem other_tail {K : PySem.W.Frag} {H0 H1 : Hp} {b p1 t : Addr} {vs : List V} {y : V} {r : Row} {rows : List Row} {n : Nat} {Q : VK} {σ : L2.St} (h0 : σ[0]? = some (some (.ref b))) (h1 : σ[1]? = some (some (.int (n : Int)))) (hn : n < rows.length) (hs : rows.length ≤ 1000)
    (e : Ex H0 H1) (hb : H0 b = some (.tup vs)) (hvs : RowsV H0 vs rows) (hp1 : H1 p1 = some (.tup (vs.take n))) (ht : H1 t = some (.tup [y])) (ry : RowV H1 y r) (hQ : ∀ v' H', Ex H0 H' → TabV H' v' (rows.set n r) → Q v' H') :
    rCatA K (.ref p1) (.ref t) H1 (fun x H2 => tSl (rSlT K) (tVar 0) (tPart (tOp (rI0 fun i j => .int (i + j)) (tVar 1) (tC (.int 1)))) tNoPart σ H2 (fun z H3 => rCatA K x z H3 Q)) := by
  have hl : vs.length = rows.length := Paired.len hvs
  have big : (1000 : Nat) ≤ sizeLine := by decide
  have hset : rows.set n r = (rows.take n ++ [r]) ++ rows.drop (n + 1) := by
    rw [List.set_eq_take_append_cons_drop, if_pos hn]
    simp
  have cont : ∀ (x : Addr) (H2 : Hp), Ex H1 H2 → H2 x = some (.tup (vs.take n ++ [y])) → tSl (rSlT K) (tVar 0) (tPart (tOp (rI0 fun i j => .int (i + j)) (tVar 1) (tC (.int 1)))) tNoPart σ H2 (fun z H3 => rCatA K (.ref x) z H3 Q) := by
    intro x H2 e2 hx
    have hb2 := e2 _ _ (e _ _ hb)
    refine ⟨_, h0, _, h1, _, _, rfl, rfl, _, rfl, b, vs, rfl, .inl (.inl hb2), not_whole_from (by omega), fun p3 hp3 => ?_⟩
    rw [cut_from (n := n + 1) (by omega) (by omega)]
    have e3 : Ex H2 (upd H2 p3 (.tup (vs.drop (n + 1)))) := Ex.new hp3
    have hx3 := e3 _ _ hx
    have left : Paired (RowV (upd H2 p3 (.tup (vs.drop (n + 1))))) (vs.take n ++ [y]) (rows.take n ++ [r]) :=
      Paired.snoc (paired_take n (Paired.mapP hvs fun _ _ q => q.mono ((e.trans e2).trans e3))) (ry.mono (e2.trans e3))
    have right : Paired (RowV (upd H2 p3 (.tup (vs.drop (n + 1))))) (vs.drop (n + 1)) (rows.drop (n + 1)) := paired_drop (n + 1) (Paired.mapP hvs fun _ _ q => q.mono ((e.trans e2).trans e3))
    refine ⟨x, p3, _, _, rfl, rfl, .inl (.inl hx3), .inl (.inl upd_same), ?_, fun q => absurd q (by simp), fun _ q => ?_, fun _ _ p4 hp4 => ?_⟩
    · rw [List.length_append, List.length_take, List.length_drop]
      simp only [List.length_cons, List.length_nil]
      omega
    · refine hQ _ _ ((e.trans e2).trans e3) ⟨x, _, rfl, hx3, ?_⟩
      rw [hset]
      have e4 : rows.drop (n + 1) = [] := List.length_eq_zero_iff.mp (by rw [← Paired.len right, q]; rfl)
      rw [e4, List.append_nil]
      exact left
    · have e5 : Ex (upd H2 p3 (.tup (vs.drop (n + 1)))) (upd (upd H2 p3 (.tup (vs.drop (n + 1)))) p4 (.tup (vs.take n ++ [y] ++ vs.drop (n + 1)))) := Ex.new hp4
      refine hQ _ _ (((e.trans e2).trans e3).trans e5) ⟨p4, _, rfl, upd_same, ?_⟩
      rw [hset]
      exact paired_app (Paired.mapP left fun _ _ q => q.mono e5) (Paired.mapP right fun _ _ q => q.mono e5)
  refine ⟨p1, t, _, _, rfl, rfl, .inl (.inl hp1), .inl (.inl ht), ?_, fun q => ?_, fun _ q => absurd q (by simp), fun _ _ p2 hp2 => ?_⟩
  · rw [List.length_take]
    simp only [List.length_cons, List.length_nil]
    omega
  · refine cont t H1 (Ex.refl _) ?_
    rw [q]
    exact ht
  · exact cont p2 _ (Ex.new hp2) upd_same
theorem z_S : ("z" : Str) = SX.S [122] := by decide +kernel
theorem law_result_scope : FnScope ["_law_rows", "_law_queue", "_law_row"] ["_law_rows", "_law_queue"] (defScope s_law_result) := ⟨rfl, rfl, rfl, by decide +kernel, rfl, by decide +kernel, by decide +kernel⟩
theorem c_law_result (T : Tx K mg)  : C8.Cal P w K mg base 1 "_law_result" sp_law_result [] := by
  obtain ⟨fd, F⟩ := T.d_law_result
  refine cal_of F T.m_law_result (binds_nil (ps := ["_law_rows", "_law_queue"]) F fun _ _ _ _ _ _ us hl => match us, hl with | [_, _], _ => rfl) law_result_scope (fun vs H Q E h => ?_) (fun cdv A outer s H vs Q E hr h => ?_)
  · obtain ⟨v, rows, q, C, rfl, _⟩ := h
    rfl
  · have sc := law_result_scope
    obtain ⟨v, rows, q, C, rfl, hv, hg, hC, hq, k⟩ := h
    refine ⟨_, (pss_cons (ps_set (i := 2) sc.nd rfl (Or.inl rfl) (pe_ix ix_tup (pv 0) (pe_callB call_len (by rfl) T.len_ (by decide +kernel) (pa_cons (pv 1) pa_nil)) (fun _ _ => rfl)))
    (pss_one (ps_ret (pe_ifExp (pt_cmpR op_isN (pv 2) pe_non (nomark _)) pe_non (pe_op op_add_str (pe_slice C8.sl_txt (pv 1) (po_some (pe_op op_sub (pe_callB call_len (by rfl) T.len_ (by decide +kernel) (pa_cons (pv 1) pa_nil)) (pe_ix ix_tup (pv 2) pe_int (fun _ _ => rfl)))) po_none) (pe_ix ix_tup (pv 2) pe_int (fun _ _ => rfl))))))), ?_⟩
    have hlt : q.length < rows.length := by rw [hg.len]; omega
    obtain ⟨b, vs, rfl, hb, hvs⟩ := hv
    obtain ⟨x, hx, rx⟩ := Paired.at' hvs (List.getElem?_eq_getElem hlt)
    have hgr := hg.ok q.length _ (List.getElem?_eq_getElem hlt)
    have k1 := k H (Ex.refl _)
    unfold resultOf at k1
    rw [List.getD_eq_getElem?_getD, List.getElem?_eq_getElem hlt, Option.getD_some] at k1
    refine ⟨_, rfl, _, rfl, _, _, rfl, ⟨Sle (by omega), rfl⟩, b, vs, _, x, rfl, rfl, .inl (.inl hb), at_of (j := q.length) (by rw [Slen]) hx, ?_⟩
    generalize rows[q.length] = r at rx hgr k1
    cases r with
    | none =>
      have ev : x = .non := rx
      subst ev
      exact ⟨_, rfl, rfl, _, rfl, ifT (by decide) k1⟩
    | some r =>
      obtain ⟨n, z⟩ := r
      obtain ⟨a, rfl, ha⟩ := rx
      obtain ⟨g1, hz, _⟩ := hgr n z rfl
      refine ⟨_, rfl, rfl, _, rfl, ifF ref_non ?_⟩
      refine ⟨_, rfl, _, rfl, _, _, rfl, ⟨Sle (by omega), rfl⟩, _, rfl, a, _, _, _, rfl, rfl, .inl (.inl ha), at0, _, _, rfl, rfl, _, rfl, _, rfl, Sle (by omega), _, rfl, a, _, _, _, rfl, rfl, .inl (.inl ha), at1, _, _, rfl, rfl, ?_, ?_⟩
      · rw [Slice q (k := q.length - n) (by rw [Slen]; omega)]
        exact Sle2 (by rw [List.length_drop]; omega) (by omega)
      · rw [Slice q (k := q.length - n) (by rw [Slen]; omega), Scat]
        exact k1
theorem law_tests_scope : FnScope ["_law_capacity", "_law_found", "_law_length"] ["_law_capacity"] (defScope s_law_tests) := ⟨rfl, rfl, rfl, by decide +kernel, rfl, by decide +kernel, by decide +kernel⟩
theorem c_law_tests (T : Tx K mg)  : C8.Cal P w K mg base 1 "_law_tests" sp_law_tests [] := by
  obtain ⟨fd, F⟩ := T.d_law_tests
  refine cal_of F T.m_law_tests (binds_nil (ps := ["_law_capacity"]) F fun _ _ _ _ _ _ us hl => match us, hl with | [_], _ => rfl) law_tests_scope (fun vs H Q E h => ?_) (fun cdv A outer s H vs Q E hr h => ?_)
  · obtain ⟨C, rfl, _⟩ := h
    rfl
  · have sc := law_tests_scope
    obtain ⟨C, rfl, h1, hC, k⟩ := h
    refine ⟨_, (pss_cons (ps_set (i := 1) sc.nd rfl (Or.inl rfl) (pe_lst (pa_cons pe_str pa_nil)))
    (pss_cons (ps_for PassesOwn.never rfl (pi_range2 (by rfl) T.range_ (pa_cons pe_int (pa_cons (pe_op op_add (pv 0) pe_int) pa_nil))) (pg_name (i := 2) sc.nd rfl (Or.inl rfl))
    (pss_one (ps_set (i := 1) sc.nd rfl (Or.inl rfl) (pe_op op_cat (pv 1) (pe_lst (pa_cons (pe_op op_mul_str pe_str (pv 2)) (pa_cons (pe_op op_mul_str pe_str (pv 2)) pa_nil)))))))
    (pss_one (ps_ret (pv 1))))), ?_⟩
    refine ⟨one_size, fun p0 hp0 => ?_⟩
    have e0 : Ex H (upd H p0 (.lst [.str ""])) := Ex.new hp0
    have q0 : upd H p0 (.lst [.str ""]) p0 = some (.lst ((tests 0).map fun q => V.str (SX.S q))) := by
      rw [upd_same]
      refine congrArg (fun z => some (HO.lst z)) ?_
      show [V.str ""] = [V.str (SX.S [])]
      rw [empty_S]
    dsimp only [gName]
    generalize upd H p0 (.lst [.str ""]) = H0 at e0 q0
    have en : ((C : Int) + 1 - 1).toNat = C := by omega
    refine tfor (walk_range (lo := 1) (n := C)) (fun R r => ⟨_, rfl, _, _, rfl, rfl, _, _, rfl, ⟨by omega, by omega, by omega, by omega⟩, by rw [en]; exact r⟩)
      (fun i σ H' => ∃ (p : Addr) (o : Option V), σ = [some (.int (C : Int)), some (.ref p), o] ∧ Ex H H' ∧ H' p = some (.lst ((tests i).map fun q => V.str (SX.S q))))
      ⟨p0, none, rfl, e0, q0⟩ (fun _ _ _ _ _ => trivial) ?_ ?_
    · rintro i y σ H1 H2 hi ⟨p, o, rfl, e, q⟩ ⟨rfl, rfl⟩
      have ei : (1 + (i : Int)).toNat = i + 1 := by omega
      refine ⟨_, rfl, _, rfl, [97], 1 + (i : Int), congrArg V.str a_S, rfl, ⟨by omega, by omega⟩, by decide, by rw [ei]; simp; omega, _, rfl, [98], 1 + (i : Int), congrArg V.str b_S, rfl, ⟨by omega, by omega⟩, by decide, by rw [ei]; simp; omega, two_size, fun l hl => ?_⟩
      rw [ei, times_one, times_one]
      have hne : p ≠ l := fun z => by subst z; rw [q] at hl; cases hl
      refine ⟨p, l, _, _, rfl, rfl, by rw [upd_ne hne]; exact q, upd_same, ?_, fun p2 hp2 => ?_⟩
      · rw [List.length_map, tests_len, sizeLine_eq]
        show 2 * i + 1 + 2 ≤ _
        omega
      · refine ⟨p2, some (.int (1 + (i : Int))), rfl, Ex.push (Ex.push e hl) hp2, ?_⟩
        rw [upd_same, tests_succ, List.map_append]
        rfl
    · rintro σ H1 ⟨p, o, rfl, e, q⟩
      exact ⟨_, rfl, k _ _ e q⟩
theorem law_other_scope : FnScope ["_law_rows", "_law_at", "_law_row", "_law_other_here"] ["_law_rows", "_law_at"] (defScope s_law_other) := ⟨rfl, rfl, rfl, by decide +kernel, rfl, by decide +kernel, by decide +kernel⟩
theorem c_law_other (T : Tx K mg)  : C8.Cal P w K mg base 1 "_law_other" sp_law_other [] := by
  obtain ⟨fd, F⟩ := T.d_law_other
  refine cal_of F T.m_law_other (binds_nil (ps := ["_law_rows", "_law_at"]) F fun _ _ _ _ _ _ us hl => match us, hl with | [_, _], _ => rfl) law_other_scope (fun vs H Q E h => ?_) (fun cdv A outer s H vs Q E hr h => ?_)
  · obtain ⟨v, rows, at_, C, rfl, _⟩ := h
    rfl
  · have sc := law_other_scope
    obtain ⟨v, rows, at_, C, rfl, hv, hg, hC, hat, k⟩ := h
    refine ⟨_, (pss_cons (ps_set (i := 2) sc.nd rfl (Or.inl rfl) (pe_ix ix_tup (pv 0) (pv 1) (fun _ _ => rfl)))
    (pss_cons (ps_if (pt_cmpR op_isN (pv 2) pe_non (nomark _))
    (pss_one (ps_ret (pe_op op_catA (pe_op op_catA (pe_slice sl_tup (pv 0) po_none (po_some (pv 1))) (pe_tup (pa_cons (pe_tup (pa_cons pe_int (pa_cons pe_str pa_nil))) pa_nil))) (pe_slice sl_tup (pv 0) (po_some (pe_op op_add (pv 1) pe_int)) po_none))))
    pss_nil)
    (pss_cons (ps_set (i := 3) sc.nd rfl (Or.inl rfl) (pe_ifExp (pt_cmpR op_gt (pe_ix ix_tup (pv 2) pe_int (fun _ _ => rfl)) pe_int (nomark _)) (pe_tup (pa_cons (pe_op op_sub (pe_ix ix_tup (pv 2) pe_int (fun _ _ => rfl)) pe_int) (pa_cons (pe_op op_add_str pe_str (pe_ix ix_tup (pv 2) pe_int (fun _ _ => rfl))) pa_nil))) pe_non))
    (pss_one (ps_ret (pe_op op_catA (pe_op op_catA (pe_slice sl_tup (pv 0) po_none (po_some (pv 1))) (pe_tup (pa_cons (pv 3) pa_nil))) (pe_slice sl_tup (pv 0) (po_some (pe_op op_add (pv 1) pe_int)) po_none))))))), ?_⟩
    have hlt : at_ < rows.length := by rw [hg.len]; omega
    obtain ⟨b, vs, rfl, hb, hvs⟩ := hv
    have hl : vs.length = rows.length := Paired.len hvs
    obtain ⟨x, hx, rx⟩ := Paired.at' hvs (List.getElem?_eq_getElem hlt)
    have hgr := hg.ok at_ _ (List.getElem?_eq_getElem hlt)
    have hother : other rows at_ = match rows[at_] with | none => rows.set at_ (some (0, [])) | some (k, w) => rows.set at_ (if k > 0 then some (k - 1, 122 :: w) else none) := by
      unfold other
      rw [List.getD_eq_getElem?_getD, List.getElem?_eq_getElem hlt, Option.getD_some] <;> rfl
    refine ⟨_, rfl, _, rfl, b, vs, _, x, rfl, rfl, .inl (.inl hb), at_of (j := at_) rfl hx, ?_⟩
    generalize rows[at_] = r at rx hgr hother
    have nw := not_whole_to (len := vs.length) (n := at_) (by omega)
    cases r with
    | none =>
      have ev : x = .non := rx
      subst ev
      refine ⟨_, rfl, rfl, _, rfl, ifT (by decide) ?_⟩
      refine ⟨_, rfl, _, rfl, _, rfl, b, vs, rfl, .inl (.inl hb), nw, fun p1 hp1 => ⟨two_size, fun t0 ht0 => ⟨one_size, fun t ht => ?_⟩⟩⟩
      have e1 : Ex H (upd H p1 (.tup (cutV vs none (some (at_ : Int))))) := Ex.new hp1
      have e2 := Ex.push (o := .tup [.int 0, .str ""]) e1 ht0
      have e2' : Ex (upd H p1 (.tup (cutV vs none (some (at_ : Int))))) (upd (upd H p1 (.tup (cutV vs none (some (at_ : Int))))) t0 (.tup [.int 0, .str ""])) := Ex.new ht0
      have e3 : Ex (upd (upd H p1 (.tup (cutV vs none (some (at_ : Int))))) t0 (.tup [.int 0, .str ""])) (upd (upd (upd H p1 (.tup (cutV vs none (some (at_ : Int))))) t0 (.tup [.int 0, .str ""])) t (.tup [.ref t0])) := Ex.new ht
      have q0 : RowV (upd (upd H p1 (.tup (cutV vs none (some (at_ : Int))))) t0 (.tup [.int 0, .str ""])) (.ref t0) (some (0, [])) := row_new rfl empty_S
      refine other_tail (r := some (0, [])) rfl rfl hlt (by rw [hg.len]; omega) (e2.trans e3) hb hvs ?_ upd_same (q0.mono e3) fun v' H' e q => k v' H' e (by rw [hother]; exact q)
      rw [cut_to (by omega)] at *
      exact e3 _ _ (e2' _ _ upd_same)
    | some r =>
      obtain ⟨n, z⟩ := r
      obtain ⟨a, rfl, ha⟩ := rx
      obtain ⟨g1, hz, _⟩ := hgr n z rfl
      have main : ∀ (y : V) (H1 : Hp) (r : Row), Ex H H1 → RowV H1 y r → rows.set at_ r = other rows at_ →
          tRet (tOp (rCatA K) (tOp (rCatA K) (tSl (rSlT K) (tVar 0) tNoPart (tPart (tVar 1))) (tTup (tCons (tVar 3) tNil))) (tSl (rSlT K) (tVar 0) (tPart (tOp (rI0 fun i j => .int (i + j)) (tVar 1) (tC (.int 1)))) tNoPart))
            { nx := fun _ H' => Q .non H', rt := Q } [some (.ref b), some (.int (at_ : Int)), some (.ref a), some y] H1 := fun y H1 r e1 ry he => by
        refine ⟨_, rfl, _, rfl, _, rfl, b, vs, rfl, .inl (.inl (e1 _ _ hb)), nw, fun p1 hp1 => ⟨_, rfl, one_size, fun t ht => ?_⟩⟩
        have e2 : Ex H1 (upd H1 p1 (.tup (cutV vs none (some (at_ : Int))))) := Ex.new hp1
        have e3 : Ex (upd H1 p1 (.tup (cutV vs none (some (at_ : Int))))) (upd (upd H1 p1 (.tup (cutV vs none (some (at_ : Int))))) t (.tup [y])) := Ex.new ht
        refine other_tail (r := r) rfl rfl hlt (by rw [hg.len]; omega) ((e1.trans e2).trans e3) hb hvs ?_ upd_same (ry.mono (e2.trans e3)) fun v' H' e q => k v' H' e (by rw [← he]; exact q)
        have h5 := e3 _ _ (upd_same : upd H1 p1 (.tup (cutV vs none (some (at_ : Int)))) p1 = _)
        rw [cut_to (by omega)] at h5 ⊢
        exact h5
      refine ⟨_, rfl, rfl, _, rfl, ifF ref_non ?_⟩
      refine ⟨_, rfl, a, _, _, _, rfl, rfl, .inl (.inl ha), at0, _, _, rfl, rfl, _, rfl, ifD (fun c => ?_) fun c => ?_⟩
      · have c : n > 0 := by omega
        refine ⟨_, rfl, a, _, _, _, rfl, rfl, .inl (.inl ha), at0, _, _, rfl, rfl, _, rfl, a, _, _, _, rfl, rfl, .inl (.inl ha), at1, _, _, rfl, rfl, Sle2 (a := [122]) (b := z) (by decide) (by omega), two_size, fun t0 ht0 => ?_⟩
        refine main (.ref t0) _ (some (n - 1, 122 :: z)) (Ex.new ht0) (row_new (by omega) (by rw [z_S]; exact Scat [122] z)) ?_
        rw [hother]
        simp only [if_pos c]
      · have c : ¬ n > 0 := by omega
        refine main .non _ none (Ex.refl _) rfl ?_
        rw [hother]
        simp only [if_neg c]
end
end Fq

set_option Elab.async false
set_option linter.all false
set_option maxRecDepth 100000
set_option maxHeartbeats 4000000
namespace Fq
open PySem PySem.Spec PyProof.Rows L2
open Evl (Ex Ex.refl Ex.trans Ex.new Ex.mut fresh_back ex_l ex_t sq_of st_of)
section
variable {P : Program} {w : World} {K : PySem.W.Frag} {mg : Str → Option Value} {base : Heap}
theorem tell_at {A B : List Row} {n i : Nat} (hi : i < n) (h1 : A.getD i none ≠ B.getD i none) (h2 : ∀ j, j < i → A.getD j none = B.getD j none) : tellFrom A B (List.range n) = ((i : Int), 1) := by
  rw [List.range_eq_range']
  rcases tell_cases A B n 0 with ⟨j, q1, q2, q3, q4, q5⟩ | ⟨q1, q2⟩
  · have e : j = i := by
      by_cases hlt : j < i
      · have : szOf A B j = 2 := if_pos (h2 j hlt)
        omega
      · by_cases hgt : i < j
        · have h3 := q4 i (Nat.zero_le _) hgt
          have : szOf A B i = 1 := if_neg h1
          omega
        · omega
    rw [q5, e]
  · have h3 := q1 i (Nat.zero_le _) (by omega)
    have : szOf A B i = 1 := if_neg h1
    omega
theorem tell_none {A B : List Row} {n : Nat} (h2 : ∀ j, j < n → A.getD j none = B.getD j none) : tellFrom A B (List.range n) = (0, 2) := by
  rw [List.range_eq_range']
  rcases tell_cases A B n 0 with ⟨j, q1, q2, q3, q4, q5⟩ | ⟨q1, q2⟩
  · have : szOf A B j = 2 := if_pos (h2 j (by omega))
    omega
  · exact q2
theorem law_telling_scope : FnScope ["_law_program", "_law_mode", "_law_one", "_law_two", "_law_first", "_law_last", "_law_length"] ["_law_program", "_law_mode", "_law_one", "_law_two"] (defScope s_law_telling) := ⟨rfl, rfl, rfl, by decide +kernel, rfl, by decide +kernel, by decide +kernel⟩
theorem c_law_telling (T : Tx K mg) (EF : EffC P w K mg base) (c_effect_of : C8.Cal P w K mg base 8 "effect_of" (sp_effect_of K) []) : C8.Cal P w K mg base 9 "_law_telling" sp_law_telling [] := by
  obtain ⟨fd, F⟩ := T.d_law_telling
  refine cal_of F T.m_law_telling (binds_nil (ps := ["_law_program", "_law_mode", "_law_one", "_law_two"]) F fun _ _ _ _ _ _ us hl => match us, hl with | [_, _, _, _], _ => rfl) law_telling_scope (fun vs H Q E h => ?_) (fun cdv A outer s H vs Q E hr h => ?_)
  · obtain ⟨p, m, c, d, rfl, _⟩ := h
    rfl
  · have sc := law_telling_scope
    obtain ⟨fR, psR, FR, bR⟩ := EF.rows
    obtain ⟨p, m, c, d, rfl, ok, hc, hd, k⟩ := h
    refine ⟨_, (pss_cons (ps_par (i := 4) (j := 5) (by rfl) sc.nd rfl rfl (by decide) rfl rfl (pa_cons (pe_prop (E := C8.E0) (C8.pe_c c_effect_of hr (by decide) rfl (pa_cons (pv 0) (pa_cons (pv 2) (pa_cons (pv 1) pa_nil)))) T.cls T.prop FR (hr.mono (by decide)) bR .nil C8.pass0 rfl) (pa_cons (pe_prop (E := C8.E0) (C8.pe_c c_effect_of hr (by decide) rfl (pa_cons (pv 0) (pa_cons (pv 3) (pa_cons (pv 1) pa_nil)))) T.cls T.prop FR (hr.mono (by decide)) bR .nil C8.pass0 rfl) pa_nil)) (by rfl))
    (pss_cons (ps_for PassesOwn.never rfl (pi_range1 (by rfl) T.range_ (pa_cons (pe_op op_add (pe_callB (call_min2 rfl) (by rfl) T.min_ (by decide +kernel) (pa_cons (pv 2) (pa_cons (pv 3) pa_nil))) pe_int) pa_nil)) (pg_name (i := 6) sc.nd rfl (Or.inl rfl))
    (pss_one (ps_if (pt_cmpR (op_neD hr.units) (pe_ix ix_tup (pv 4) (pv 6) (fun _ _ => rfl)) (pe_ix ix_tup (pv 5) (pv 6) (fun _ _ => rfl)) (nomark _))
      (pss_one (ps_ret (pe_tup (pa_cons (pv 6) (pa_cons pe_int pa_nil)))))
      pss_nil)))
    (pss_one (ps_ret (pe_tup (pa_cons pe_int (pa_cons pe_int pa_nil))))))), ?_⟩
    have gA := goodRows_of (m := m) hc.1 (its_ok ok)
    have gB := goodRows_of (m := m) hd.1 (its_ok ok)
    refine ⟨_, rfl, _, rfl, _, rfl, p, c, m, rfl, ok, hc, fun v1 H1 e1 q1 => ?_⟩
    obtain ⟨x1, dx1, t1, rfl, hx1, ht1⟩ := q1
    refine ⟨x1, dx1, _, rfl, hx1, x1, dx1, _, t1, rfl, hx1, rfl, ?_⟩
    refine ⟨_, rfl, _, rfl, _, rfl, p, d, m, rfl, ok, hd, fun v2 H2 e2 q2 => ?_⟩
    obtain ⟨x2, dx2, t2, rfl, hx2, ht2⟩ := q2
    refine ⟨x2, dx2, _, rfl, hx2, x2, dx2, _, t2, rfl, hx2, rfl, _, _, rfl, ?_⟩
    have ht1 := ht1.mono e2
    obtain ⟨b1, vs1, rfl, hb1, hv1⟩ := ht1
    obtain ⟨b2, vs2, rfl, hb2, hv2⟩ := ht2
    have e12 := e1.trans e2
    dsimp only
    have em : (if (d : Int) < (c : Int) then (d : Int) else (c : Int)) = ((min c d : Nat) : Int) := by split <;> omega
    refine tfor (walk_range (lo := 0) (n := min c d + 1)) (fun R r => ⟨_, rfl, _, rfl, _, _, rfl, _, _, rfl, rfl, _, rfl, by rw [em]; omega, by rw [em]; omega, by rw [em, show (((min c d : Nat) : Int) + 1).toNat = min c d + 1 by omega]; exact r⟩)
      (fun i σ H' => ∃ o : Option V, σ = [some (.str (SX.S p.text)), some (.str m.s), some (.int (c : Int)), some (.int (d : Int)), some (.ref b1), some (.ref b2), o] ∧ Ex H2 H' ∧ ∀ j, j < i → (rowsOf p.its c m).getD j none = (rowsOf p.its d m).getD j none)
      ⟨none, rfl, Ex.refl _, fun j hj => absurd hj (Nat.not_lt_zero _)⟩ (fun _ _ _ _ _ => trivial) ?_ ?_
    · rintro i y σ H3 H4 hi ⟨o, rfl, e3, hall⟩ ⟨rfl, rfl⟩
      have l1 : i < (rowsOf p.its c m).length := by rw [gA.len]; omega
      have l2 : i < (rowsOf p.its d m).length := by rw [gB.len]; omega
      obtain ⟨z1, hz1, rz1⟩ := Paired.at' hv1 (List.getElem?_eq_getElem l1)
      obtain ⟨z2, hz2, rz2⟩ := Paired.at' hv2 (List.getElem?_eq_getElem l2)
      have d1 : (rowsOf p.its c m).getD i none = (rowsOf p.its c m)[i] := by rw [List.getD_eq_getElem?_getD, List.getElem?_eq_getElem l1, Option.getD_some]
      have d2 : (rowsOf p.its d m).getD i none = (rowsOf p.its d m)[i] := by rw [List.getD_eq_getElem?_getD, List.getElem?_eq_getElem l2, Option.getD_some]
      have s1 := (gA.ok i _ (List.getElem?_eq_getElem l1)).signs
      have s2 := (gB.ok i _ (List.getElem?_eq_getElem l2)).signs
      refine ⟨_, rfl, _, rfl, b1, vs1, _, z1, rfl, rfl, .inl (.inl (e3 _ _ hb1)), at_of (j := i) (by omega) hz1, _, rfl, _, rfl, b2, vs2, _, z2, rfl, rfl, .inl (.inl (e3 _ _ hb2)), at_of (j := i) (by omega) hz2, _, _, dp_row (rz1.mono e3), dp_row (rz2.mono e3), shaped_row s1, shaped_row s2, _, rfl, ?_⟩
      rw [eqv_row]
      by_cases h : (rowsOf p.its c m)[i] = (rowsOf p.its d m)[i]
      · refine ifF (by rw [decide_eq_true h]; rfl) ⟨_, rfl, e3, fun j hj => ?_⟩
        by_cases hji : j = i
        · rw [hji, d1, d2, h]
        · exact hall j (by omega)
      · refine ifT (by rw [decide_eq_false h]; rfl) ⟨_, rfl, two_size, fun q hq => k _ _ (e12.trans (Ex.push e3 hq)) ?_⟩
        unfold telling
        rw [tell_at hi (by rw [d1, d2]; exact h) hall]
        exact ⟨q, rfl, by rw [upd_same]; show some (HO.tup [V.int (0 + (i : Int)), V.int 1]) = _; rw [Int.zero_add]⟩
    · rintro σ H3 ⟨o, rfl, e3, hall⟩
      refine ⟨two_size, fun q hq => k _ _ (e12.trans (Ex.push e3 hq)) ?_⟩
      unfold telling
      rw [tell_none hall]
      exact ⟨q, rfl, upd_same⟩
def pMa : Prg := ([45, 97], none)
theorem minus_a_S : ("-a" : Str) = SX.S [45, 97] := by decide +kernel
/-- the answers of a table to the tests, as a comprehension makes them -/
theorem answers_of {H : Hp} {D : Addr} {ys : List V} {rows : List Row} {C : Nat} (hy : H D = some (.lst ys)) (hp : Paired (fun i y => ∃ q, (tests C)[i]? = some q ∧ y = optV (resultOf rows q)) ((List.range (tests C).length).filter fun _ => true) ys) : AnsV H (.ref D) (answers rows C) := by
  refine ⟨D, rfl, ?_⟩
  rw [hy]
  refine congrArg (fun z => some (HO.lst z)) (List.ext_getElem? fun i => ?_)
  have hl := Paired.len hp
  rw [filt_all] at hp hl
  rw [List.length_range] at hl
  unfold answers
  rw [List.map_map, List.getElem?_map]
  cases h1 : ys[i]? with
  | none =>
    have h2 : (tests C).length ≤ i := by rw [hl]; exact List.getElem?_eq_none_iff.mp h1
    rw [List.getElem?_eq_none h2]
    rfl
  | some y =>
    obtain ⟨j, hj, q, q1, q2⟩ := Paired.at' hp h1
    have ej := range_at hj
    subst ej
    rw [q1, q2]
    rfl
theorem law_largest_right_scope : FnScope ["_law_target", "_law_answers", "_law_queue"] [] (defScope s_law_largest_right) := ⟨rfl, rfl, rfl, by decide +kernel, rfl, by decide +kernel, by decide +kernel⟩
theorem c_law_largest_right (T : Tx K mg) (EF : EffC P w K mg base) (c_effect_of : C8.Cal P w K mg base 8 "effect_of" (sp_effect_of K) []) (c_identify : C8.Cal P w K mg base 8 "identify" (sp_identify K) []) (c_law_result : C8.Cal P w K mg base 1 "_law_result" sp_law_result []) (c_law_tests : C8.Cal P w K mg base 1 "_law_tests" sp_law_tests []) : C8.Cal P w K mg base 9 "_law_largest_right" sp_law_largest_right [] := by
  obtain ⟨fd, F⟩ := T.d_law_largest_right
  refine cal_of F T.m_law_largest_right (binds_nil (ps := []) F fun _ _ _ _ _ _ us hl => match us, hl with | [], _ => rfl) law_largest_right_scope (fun vs H Q E h => ?_) (fun cdv A outer s H vs Q E hr h => ?_)
  · obtain ⟨rfl, _⟩ := h
    rfl
  · have sc := law_largest_right_scope
    obtain ⟨fR, psR, FR, bR⟩ := EF.rows
    obtain ⟨fE, psE, FE, bE⟩ := EF.eq
    refine ⟨_, (pss_cons (ps_set (i := 0) sc.nd rfl (Or.inr rfl) (C8.pe_c c_effect_of hr (by decide) rfl (pa_cons pe_str (pa_cons pe_int (pa_cons pe_str pa_nil)))))
    (pss_cons (ps_setLc (i := 1) (own := [("_law_queue", 2)]) (g := gName 2) (tt := tYes) rfl sc.nd rfl rfl (sw_true rfl rfl rfl (by decide +kernel)) (pi_list (C8.pe_c c_law_tests hr (by decide) rfl (pa_cons pe_int pa_nil))) (blkOk_by (N := ["_law_target", "_law_answers", "_law_queue"]) (sc := defScope s_law_largest_right) (by decide +kernel)) (fun _ _ _ _ _ => (pg_name (i := 2) sc.nd rfl (Or.inl rfl))) (fun _ _ _ _ _ => pts_nil) (fun _ _ _ _ _ => (C8.pe_c c_law_result hr (by decide) rfl (pa_cons (pe_prop (E := C8.E0) (pv 0) T.cls T.prop FR (hr.mono (by decide)) bR .nil C8.pass0 rfl) (pa_cons (pv 2) pa_nil)))))
    (pss_one (ps_ret (pe_cmpR (op_eqO (E := C8.E0) FE (hr.mono (by decide)) T.meq.at_ T.meq.fn bE C8.pass0) (C8.pe_c c_identify hr (by decide) rfl (pa_cons pe_int (pa_cons (pv 1) pa_nil))) (pv 0) (nomark _)))))), ?_⟩
    obtain ⟨rfl, k⟩ := h
    have ok : Prg.Ok pMa := ⟨fun c hc => by
      rcases List.mem_cons.mp hc with q | hc
      · exact .inr q
      · rw [List.mem_singleton.mp hc]
        exact .inl ⟨by decide, by decide⟩, by decide, fun _ _ q => nomatch q⟩
    have gr := goodRows_of (C := 100) (m := .oldest) (by decide) (its_ok ok)
    refine ⟨pMa, 100, .oldest, by rw [minus_a_S]; rfl, ok, ⟨by decide, by decide⟩, fun v1 H1 e1 q1 => ?_⟩
    obtain ⟨x1, dx1, t1, rfl, hx1, ht1⟩ := q1
    refine ⟨100, rfl, by decide, by decide, fun pt H2 e2 hpt => ?_⟩
    refine ⟨pt, rfl, ⟨_, .inl (.inl hpt)⟩, fun D hD => ?_⟩
    have hx2 := e2 _ _ hx1
    have ht2 := ht1.mono e2
    have hlt : ((tests 100).map fun q => V.str (SX.S q)).length = (tests 100).length := List.length_map ..
    have hl200 := tests_len 100
    refine lc_gen (walk_list (K := K) (a := pt) (xs := (tests 100).map fun q => V.str (SX.S q))) hD (by rw [hlt, hl200]; decide) (fun H' e => .inl (.inl (e _ _ hpt))) (fun i H x H' y => by rw [y.1]; exact Ex.refl _) (fun _ => true) (fun i y H => ∃ q, (tests 100)[i]? = some q ∧ y = optV (resultOf (rowsOf pMa.its 100 .oldest) q)) (fun i y H H' e q => q) ?_ fun ys H3 e3 hy hp2 => ?_
    · intro i x H4 H5 Acc Nn hi e4 e5 y ka kn
      obtain ⟨rfl, hx⟩ := y
      rw [List.getElem?_map] at hx
      obtain ⟨q, hq, rfl⟩ := Option.map_eq_some_iff.mp hx
      refine ⟨rfl, tyes ?_⟩
      refine ⟨_, rfl, x1, dx1, _, rfl, e4 _ _ hx2, x1, dx1, _, t1, rfl, e4 _ _ hx2, rfl, ?_⟩
      refine ⟨_, rfl, t1, _, q, 100, rfl, ht2.mono e4, gr, by decide, (tests_mem (List.mem_of_getElem? hq)).1, fun H6 e6 => ka rfl _ _ e6 ⟨q, hq, rfl⟩⟩
    · rw [hlt] at hp2
      have ha := answers_of hy hp2
      have e13 := (e1.trans e2).trans e3
      refine ⟨_, rfl, 100, .ref D, _, rfl, ha, gr, ⟨by decide, by decide⟩, fun v4 H4 e4 q4 => ?_⟩
      obtain ⟨x4, dx4, t4, rfl, hx4, ht4⟩ := q4
      have hx5 := e4 _ _ (e3 _ _ hx2)
      refine ⟨_, rfl, x4, x1, dx4, dx1, _, _, rfl, rfl, hx4, hx5, _, _, _, _, rfl, ⟨x4, dx4, t4, rfl, hx4, ht4⟩, ⟨x1, dx1, t1, rfl, hx5, ht2.mono (e3.trans e4)⟩, fun r hr => ?_, fun r hr => ?_, fun H6 e6 => ?_⟩
      · obtain ⟨n, hn⟩ := List.mem_iff_getElem?.mp hr
        exact (gr.ok n r hn).signs
      · obtain ⟨n, hn⟩ := List.mem_iff_getElem?.mp hr
        exact (gr.ok n r hn).signs
      · rw [decide_eq_true rfl]
        exact k _ ((e13.trans e4).trans e6)
end
end Fq

set_option Elab.async false
set_option linter.all false
set_option maxRecDepth 100000
set_option maxHeartbeats 4000000
namespace Fq
open PySem PySem.Spec PyProof.Rows L2
open Evl (Ex Ex.refl Ex.trans Ex.new Ex.mut fresh_back ex_l ex_t sq_of st_of)
section
variable {P : Program} {w : World} {K : PySem.W.Frag} {mg : Str → Option Value} {base : Heap}
theorem cut_mem {xs : List V} {x : V} {lo hi : Option Int} (h : x ∈ cutV xs lo hi) : x ∈ xs := List.mem_of_mem_drop (List.mem_of_mem_take h)
theorem scal_opt (a b : Option (List Nat)) : scal (optV a) (optV b) = true := by cases a <;> cases b <;> rfl
theorem optV_eq {a b : Option (List Nat)} : (optV a = optV b) ↔ a = b := by
  cases a with
  | none =>
    cases b with
    | none => exact ⟨fun _ => rfl, fun _ => rfl⟩
    | some b => exact ⟨fun h => (nomatch h), fun h => (nomatch h)⟩
  | some a =>
    cases b with
    | none => exact ⟨fun h => (nomatch h), fun h => (nomatch h)⟩
    | some b =>
      rw [optV_some, optV_some, S_eq]
      exact ⟨fun h => congrArg some h, fun h => Option.some.inj h⟩
theorem inV_nat (n : Nat) (sz : List Nat) : inV (.int (n : Int)) (sz.map fun n => V.int (n : Nat)) = decide (n ∈ sz) := by
  rw [Bool.eq_iff_iff]
  unfold inV
  rw [List.any_eq_true, decide_eq_true_iff]
  constructor
  · rintro ⟨y, hy, q⟩
    obtain ⟨m, hm, rfl⟩ := List.mem_map.mp hy
    have e : (m : Int) = (n : Int) := by simpa [eqV] using q
    have e : m = n := by omega
    rw [← e]
    exact hm
  · intro h
    exact ⟨_, List.mem_map.mpr ⟨n, h, rfl⟩, by simp [eqV]⟩
theorem flat_nats (sz : List Nat) : (sz.map fun n => V.int (n : Nat)).all flatV = true := List.all_eq_true.mpr fun z hz => by
  obtain ⟨q, _, rfl⟩ := List.mem_map.mp hz
  rfl
theorem factGood_snoc {is : List Pc} {C : Nat} {m : Mode} {fs : List Fact} {j : Nat} {f : Fact} (h : fs[j]? = some f) : factGood is C m (fs.take (j + 1)) ↔ factGood is C m (fs.take j) ∧ (f.1.length ≤ C ∧ resultOf (rowsOf is C m) f.1 = f.2) := by
  unfold factGood
  rw [List.take_add_one, h]
  constructor
  · intro q
    exact ⟨fun x hx => q x (List.mem_append_left _ hx), q f (List.mem_append_right _ (by simp))⟩
  · rintro ⟨q1, q2⟩ x hx
    rcases List.mem_append.mp hx with hx | hx
    · exact q1 x hx
    · rw [show x = f by simpa using hx]
      exact q2
theorem law_sizes_right_scope : FnScope ["_law_program", "_law_mode", "_law_facts", "_law_sizes", "_law_size", "_law_rows", "_law_good", "_law_queue", "_law_result_here"] ["_law_program", "_law_mode", "_law_facts", "_law_sizes"] (defScope s_law_sizes_right) := ⟨rfl, rfl, rfl, by decide +kernel, rfl, by decide +kernel, by decide +kernel⟩
theorem c_law_sizes_right (T : Tx K mg) (EF : EffC P w K mg base) (c_effect_of : C8.Cal P w K mg base 8 "effect_of" (sp_effect_of K) []) (c_law_result : C8.Cal P w K mg base 1 "_law_result" sp_law_result []) : C8.Cal P w K mg base 9 "_law_sizes_right" sp_law_sizes_right [] := by
  obtain ⟨fd, F⟩ := T.d_law_sizes_right
  refine cal_of F T.m_law_sizes_right (binds_nil (ps := ["_law_program", "_law_mode", "_law_facts", "_law_sizes"]) F fun _ _ _ _ _ _ us hl => match us, hl with | [_, _, _, _], _ => rfl) law_sizes_right_scope (fun vs H Q E h => ?_) (fun cdv A outer s H vs Q E hr h => ?_)
  · obtain ⟨p, m, v, fs, a, sz, rfl, _⟩ := h
    rfl
  · have sc := law_sizes_right_scope
    obtain ⟨fR, psR, FR, bR⟩ := EF.rows
    obtain ⟨p, m, v, fs, a, sz, rfl, ok, hv, hg, hfl, ha, hsl, hsz, hiff, k⟩ := h
    refine ⟨_, (pss_cons (ps_for PassesOwn.never rfl (pi_list (pe_op op_cat (pe_listRg rfl rfl T.list_ (prg_2 rfl T.range_ pe_int pe_int)) (pe_slice sl_list (pv 3) (po_some (pe_un un_neg pe_int)) po_none))) (pg_name (i := 4) sc.nd rfl (Or.inl rfl))
    (pss_cons (ps_set (i := 5) sc.nd rfl (Or.inl rfl) (pe_prop (E := C8.E0) (C8.pe_c c_effect_of hr (by decide) rfl (pa_cons (pv 0) (pa_cons (pv 4) (pa_cons (pv 1) pa_nil)))) T.cls T.prop FR (hr.mono (by decide)) bR .nil C8.pass0 rfl))
      (pss_cons (ps_set (i := 6) sc.nd rfl (Or.inl rfl) pe_bl)
      (pss_cons (ps_for PassesOwn.never rfl (pi_list (pv 2)) (pg_tup rfl (pgs_cons (pg_name (i := 7) sc.nd rfl (Or.inl rfl)) (pgs_cons (pg_name (i := 8) sc.nd rfl (Or.inl rfl)) pgs_nil)))
      (pss_one (ps_if (PW.pt (pw_or (pt_cmpR op_gt (pe_callB call_len (by rfl) T.len_ (by decide +kernel) (pa_cons (pv 7) pa_nil)) (pv 4) (nomark _)) (pw_or1 (pt_cmpR op_ne (C8.pe_c c_law_result hr (by decide) rfl (pa_cons (pv 5) (pa_cons (pv 7) pa_nil))) (pv 8) (nomark _)))))
        (pss_one (ps_set (i := 6) sc.nd rfl (Or.inl rfl) pe_bl))
        pss_nil)))
      (pss_one (ps_if (pt_cmpR op_ne (pv 6) (pe_cmpR op_in_seq (pv 4) (pv 3) rfl) (nomark _))
      (pss_one (ps_ret pe_bl))
      pss_nil))))))
    (pss_one (ps_ret pe_bl))), ?_⟩
    obtain ⟨fa, fvs, rfl, hfa, hfvs⟩ := hv
    have hlf : fvs.length = fs.length := Paired.len hfvs
    have hszl : (sz.map fun n => V.int (n : Nat)).length ≤ 1000 := by rw [List.length_map]; exact hsl
    refine ⟨_, _, rfl, rfl, RgOk.of_le (by decide) (by decide) (by decide) (by decide), fun p1 hp1 => ?_⟩
    have e1 : Ex H (upd H p1 (.lst (rgV 1 15))) := Ex.new hp1
    refine ⟨_, rfl, _, rfl, _, rfl, a, _, rfl, .inl (.inl (e1 _ _ ha)), fun p2 hp2 => ?_⟩
    have hne : p1 ≠ p2 := fun z => by subst z; rw [upd_same] at hp2; cases hp2
    have e2 := Ex.push (o := .lst (cutV (sz.map fun n => V.int (n : Nat)) (some (-1)) none)) e1 hp2
    have hcl := cutV_length (sz.map fun n => V.int (n : Nat)) (some (-1)) none
    refine ⟨p1, p2, _, _, rfl, rfl, by rw [upd_ne hne]; exact upd_same, upd_same, ?_, fun p3 hp3 => ?_⟩
    · rw [rgV_length, sizeLine_eq]
      have : ((15 : Int) - 1).toNat = 14 := rfl
      omega
    have e3 := Ex.push (o := .lst (rgV 1 15 ++ cutV (sz.map fun n => V.int (n : Nat)) (some (-1)) none)) e2 hp3
    have h3 : upd (upd (upd H p1 (.lst (rgV 1 15))) p2 (.lst (cutV (sz.map fun n => V.int (n : Nat)) (some (-1)) none))) p3 (.lst (rgV 1 15 ++ cutV (sz.map fun n => V.int (n : Nat)) (some (-1)) none)) p3 = some (.lst (rgV 1 15 ++ cutV (sz.map fun n => V.int (n : Nat)) (some (-1)) none)) := upd_same
    generalize upd (upd (upd H p1 (.lst (rgV 1 15))) p2 (.lst (cutV (sz.map fun n => V.int (n : Nat)) (some (-1)) none))) p3 (.lst (rgV 1 15 ++ cutV (sz.map fun n => V.int (n : Nat)) (some (-1)) none)) = H3 at e3 h3
    have hall : ∀ x ∈ rgV 1 15 ++ cutV (sz.map fun n => V.int (n : Nat)) (some (-1)) none, ∃ n : Nat, x = .int (n : Nat) ∧ 1 ≤ n ∧ n ≤ 100 := fun x hx => by
      rcases List.mem_append.mp hx with q | q
      · obtain ⟨i, hi, rfl⟩ := List.mem_map.mp q
        have hi := List.mem_range.mp hi
        have : ((15 : Int) - 1).toNat = 14 := rfl
        exact ⟨i + 1, by show V.int (1 + (i : Nat)) = _; exact congrArg V.int (by omega), by omega, by omega⟩
      · obtain ⟨n, hn, rfl⟩ := List.mem_map.mp (cut_mem q)
        exact ⟨n, rfl, hsz n hn⟩
    generalize rgV 1 15 ++ cutV (sz.map fun n => V.int (n : Nat)) (some (-1)) none = xs at h3 hall
    refine ⟨p3, rfl, ⟨_, .inl (.inl h3)⟩, ?_⟩
    refine for_it (D := { nx := _, rt := _ }) (walk_list (K := K) (a := p3) (xs := xs))
      (fun i σ H' => ∃ o4 o5 o6 o7 o8 : Option V, σ = [some (.str (SX.S p.text)), some (.str m.s), some (.ref fa), some (.ref a), o4, o5, o6, o7, o8] ∧ Ex H3 H')
      ⟨none, none, none, none, none, rfl, Ex.refl _⟩ (fun i σ H' _ p => .inl (.inl (by obtain ⟨_, _, _, _, _, _, e⟩ := p; exact e _ _ h3))) ?_ ?_
    · rintro i x σ H4 H5 hi ⟨o4, o5, o6, o7, o8, rfl, e4⟩ ⟨rfl, hx⟩
      obtain ⟨C, rfl, hC⟩ := hall x (List.mem_of_getElem? hx)
      have gr := goodRows_of (m := m) hC.1 (its_ok ok)
      refine ⟨_, rfl, _, rfl, _, rfl, p, C, m, rfl, ok, hC, fun v6 H6 e6 q6 => ?_⟩
      obtain ⟨x6, dx6, t6, rfl, hx6, ht6⟩ := q6
      refine ⟨x6, dx6, _, rfl, hx6, x6, dx6, _, t6, rfl, hx6, rfl, ?_⟩
      have e36 := (e3.trans e4).trans e6
      have hfa6 := e36 _ _ hfa
      dsimp only [gName]
      refine tset_c ?_
      refine tfor (walk_list (K := K) (a := fa) (xs := fvs)) (fun R r => ⟨_, rfl, fa, rfl, ⟨_, .inl (.inl hfa6)⟩, r⟩)
        (fun j σ H' => ∃ (b : Bool) (o7 o8 : Option V), σ = [some (.str (SX.S p.text)), some (.str m.s), some (.ref fa), some (.ref a), some (.int (C : Nat)), some t6, some (.bl b), o7, o8] ∧ Ex H6 H' ∧ (b = true ↔ factGood p.its C m (fs.take j)))
        ⟨true, o7, o8, rfl, Ex.refl _, ⟨fun _ f hf => (nomatch hf), fun _ => rfl⟩⟩ (fun i σ H' _ p => .inl (.inl (by obtain ⟨_, _, _, _, e, _⟩ := p; exact e _ _ hfa6))) ?_ ?_
      · rintro j y σ H7 H8 hj ⟨b, o7, o8, rfl, e7, hb⟩ ⟨rfl, hy⟩
        obtain ⟨f, hf, ry⟩ := Paired.at hfvs hy
        obtain ⟨fp, rfl, hfp⟩ := ry
        have hfp := e7 _ _ (e36 _ _ hfp)
        have gf := hg f (List.mem_of_getElem? hf)
        refine ⟨fp, _, rfl, .inl (.inl hfp), rfl, _, _, rfl, _, _, rfl, rfl, ?_⟩
        refine ⟨_, rfl, _, _, rfl, ⟨Sle (by have := gf.1; omega), rfl⟩, _, rfl, _, _, rfl, rfl, _, rfl, ifD (fun c => ?_) fun c => ?_⟩
        · rw [Slen] at c
          refine ifT rfl ⟨false, _, _, rfl, e7, ⟨fun q => (nomatch q), fun q => ?_⟩⟩
          have := ((factGood_snoc hf).mp q).2.1
          omega
        · rw [Slen] at c
          refine ⟨_, rfl, _, rfl, t6, _, f.1, C, rfl, ht6.mono e7, gr, hC.2, by omega, fun H9 e9 => ?_⟩
          refine ⟨_, rfl, scal_opt _ _, _, rfl, ?_⟩
          by_cases h : resultOf (rowsOf p.its C m) f.1 = f.2
          · refine ifF (by rw [decide_eq_true (optV_eq.mpr h)]; rfl) ⟨b, _, _, rfl, e7.trans e9, ?_⟩
            rw [factGood_snoc hf, hb]
            exact ⟨fun q => ⟨q, by omega, h⟩, fun q => q.1⟩
          · refine ifT (by rw [decide_eq_false fun q => h (optV_eq.mp q)]; rfl) ⟨false, _, _, rfl, e7.trans e9, ⟨fun q => (nomatch q), fun q => ?_⟩⟩
            exact absurd ((factGood_snoc hf).mp q).2.2 h
      · rintro σ H7 ⟨b, o7, o8, rfl, e7, hb⟩
        rw [List.take_of_length_le (by omega)] at hb
        have ha7 := e7 _ _ (e36 _ _ ha)
        refine ⟨_, rfl, _, rfl, _, rfl, a, _, rfl, .inl (.inl (.inl ha7)), rfl, flat_nats sz, rfl, _, rfl, ?_⟩
        rw [if_neg Bool.false_ne_true, inV_nat]
        have e : b = decide (C ∈ sz) := by
          rw [Bool.eq_iff_iff, hb, decide_eq_true_iff]
          exact (hiff C hC.1 hC.2).symm
        refine ifF (by rw [e, decide_eq_true rfl]; rfl) ?_
        exact ⟨_, _, _, _, _, rfl, (e4.trans e6).trans e7⟩
    · rintro σ H4 ⟨o4, o5, o6, o7, o8, rfl, e4⟩
      exact k _ (e3.trans e4)
end
end Fq

set_option Elab.async false
set_option linter.all false
set_option maxRecDepth 100000
set_option maxHeartbeats 4000000
/-! The promises of the defs that the young text '' reaches; lengths of last letters. -/
namespace Fq
open PySem PySem.Spec PyProof.Rows L2
open Evl (Ex Ex.refl Ex.trans Ex.new Ex.mut fresh_back ex_l ex_t sq_of st_of)
theorem lastJoin_le {count : Nat} {found letters : List Nat} (h : found.length ≤ count) : (lastJoin count found letters).length ≤ count := by
  unfold lastJoin
  rw [List.length_append, List.length_drop]
  omega
theorem lastItem_le {count : Nat} {found : List Nat} {i : Pc} (h : found.length ≤ count) : (lastItem count found i).length ≤ count := by
  unfold lastItem
  split
  · exact h
  · cases i with
    | t s => exact lastJoin_le h
    | r b n => exact lastJoin_le h
theorem lastItems_le {count : Nat} : ∀ (is : List Pc) {found : List Nat}, found.length ≤ count → (is.foldl (lastItem count) found).length ≤ count
  | [], _, h => h
  | i :: is, _, h => lastItems_le is (lastItem_le h)
theorem lastOf_le (is : List Pc) (count : Nat) : (lastOf is count).length ≤ count := lastItems_le _ (Nat.zero_le _)
theorem lastItems_full {count : Nat} : ∀ (is : List Pc) {found : List Nat}, count - found.length = 0 → is.foldl (lastItem count) found = found
  | [], _, _ => rfl
  | i :: is, found, h => by
    rw [List.foldl_cons, show lastItem count found i = found from if_pos h]
    exact lastItems_full is h
def sp_last_of (d : Nat) : Sp := fun vs H Q _ => ∃ (v : V) (is : List Pc) (count : Nat), vs = [v, .int (count : Int)] ∧ PrgV H v is ∧ Deep d is ∧ ItsOk is ∧ count ≤ 1000 ∧ ∀ H', Ex H H' → Q (.str (SX.S (lastOf is count))) H'
/-- what the lengths of a program's profile are -/
structure FiveOk (is : List Pc) (f : Five) : Prop where
  len : ∀ c : Nat, ((lastOf is c).length : Int) = min (c : Int) f.1
  takes : 0 ≤ f.2.1
  low : f.2.2.1 ≤ 0
  lowo : f.2.2.1 ≤ f.1 - f.2.1
  high : 0 ≤ f.2.2.2.1
  higho : f.1 - f.2.1 ≤ f.2.2.2.1
  fall : f.2.2.2.1 - (f.1 - f.2.1) ≤ f.2.2.2.2
def sp_result_by_length (K : PySem.W.Frag) : Sp := fun vs H Q _ => ∃ (v w : V) (is : List Pc) (f : Five) (C : Nat) (m : Mode) (q : List Nat), vs = [v, w, .int (C : Int), .str m.s, .str (SX.S q)] ∧ PrgV H v is ∧ FiveV K H w f ∧ FiveOk is f ∧ ItsOk is ∧ C ≤ 100 ∧ q.length ≤ C ∧
  ∀ H', Ex H H' → Q (optV (resultByLength is f C m q)) H'
/-- d: 0 no call, 1 not newest, 2 all -/
def sp_fits (K : PySem.W.Frag) (d : Nat) : Sp := fun vs H Q _ => ∃ (v w u : V) (is : List Pc) (f : Five) (C : Nat) (m : Mode) (fs : List Fact), vs = [v, w, .int (C : Int), .str m.s, u] ∧ (d = 0 → False) ∧ (d = 1 → m ≠ .newest) ∧ PrgV H v is ∧ FiveV K H w f ∧ FactsV H u fs ∧ FiveOk is f ∧ ItsOk is ∧ (∀ f ∈ fs, GoodFact f) ∧ fs.length ≤ 1000 ∧
  (1 ≤ C ∧ C ≤ 100) ∧ ∀ H', Ex H H' → Q (.bl (fits is f C m fs)) H'
def sp_fitting_capacities : Sp := fun vs H Q _ => ∃ (p : Prg) (m : Mode) (u : V) (fs : List Fact), vs = [.str (SX.S p.text), .str m.s, u] ∧ p.Ok ∧ FiveOk p.its (fiveOf p.its) ∧ FactsV H u fs ∧ (∀ f ∈ fs, GoodFact f) ∧ fs.length ≤ 1000 ∧
  ∀ a H', Ex H H' → H' a = some (.lst ((fitting p.its m fs).map fun n => V.int (n : Nat))) → Q (.ref a) H'
end Fq

set_option Elab.async false
set_option linter.all false
set_option maxRecDepth 100000
set_option maxHeartbeats 4000000
namespace Fq
open PySem PySem.Spec PyProof.Rows L2
open Evl (Ex Ex.refl Ex.trans Ex.new Ex.mut fresh_back ex_l ex_t sq_of st_of)
section
variable {P : Program} {w : World} {K : PySem.W.Frag} {mg : Str → Option Value} {base : Heap}
abbrev rCatS : R2 := fun x y H Q => ∃ i j, x = .str i ∧ y = .str j ∧ i.length + j.length ≤ sizeLine ∧ Q (.str (i ++ j)) H
theorem paired_rev {α β : Type} {F : α → β → Prop} : ∀ {xs : List α} {ys : List β}, Paired F xs ys → Paired F xs.reverse ys.reverse
  | _, _, .nil => .nil
  | _, _, .cons h t => by
    rw [List.reverse_cons, List.reverse_cons]
    exact Paired.snoc (paired_rev t) h
theorem empty_S' : ("" : Str) = SX.S [] := by decide +kernel
theorem times_length (n : Nat) (l : List Nat) : (times n l).length = n * l.length := by
  unfold times
  simp only [List.length_flatten, List.map_replicate, List.sum_replicate_nat]
theorem last_of_scope : FnScope ["items", "count", "found", "item", "left", "letters"] ["items", "count"] (defScope s_last_of) := ⟨rfl, rfl, rfl, by decide +kernel, rfl, by decide +kernel, by decide +kernel⟩
theorem c_last_of_step {d L B : Nat} {u : Tok} (T : Tx K mg) (hTK : mg "TAKE" = some (.str "-" u)) (u0 : u ≠ 0) (uB : u < B) (c_last_of : CalB B P w K mg base L "last_of" (sp_last_of d)) : CalB B P w K mg base (L + 1) "last_of" (sp_last_of (d + 1)) := by
  obtain ⟨fd, F⟩ := T.d_last_of
  refine calB_of F T.m_last_of (F.bindsN (ps := ["items", "count"]) fun _ _ _ _ _ _ us hl => match us, hl with | [_, _], _ => rfl) last_of_scope (fun vs H Q E h => ?_) (fun cdv A outer s H vs Q E hr h => ?_)
  · obtain ⟨v, is, count, rfl, _⟩ := h
    rfl
  · have sc := last_of_scope
    obtain ⟨v, is, count, rfl, hv, hdp, hok, hc, k⟩ := h
    refine ⟨_, (ssb_cons (Sb.of (ps_set (i := 2) sc.nd rfl (Or.inl rfl) pe_str))
    (ssb_cons (sb_for PassesOwn.never rfl (pi_list (pe_revL (pv 0))) (pg_name (i := 3) sc.nd rfl (Or.inl rfl))
    (ssb_cons (Sb.of (ps_set (i := 4) sc.nd rfl (Or.inl rfl) (pe_op op_sub (pv 1) (pe_callB call_len (by rfl) T.len_ (by decide +kernel) (pa_cons (pv 2) pa_nil)))))
      (ssb_cons (Sb.of (ps_if (pt_cmpR op_eq (pv 4) pe_int (nomark _))
      (pss_one (ps_ret (pv 2)))
      pss_nil))
      (ssb_cons (sb_if (pt_val (pe_callB call_isi (by rfl) T.isinstance_ (by decide +kernel) (pa_cons (pv 3) (pa_cons (pe_bltn (v := .ty "str") (u := .type "str") (by rfl) T.str_ (by decide +kernel) rfl) pa_nil))))
      (ssb_one (sb_set (i := 5) sc.nd rfl (Or.inl rfl) (eb_replace (i := 3) (hm := hTK) (hg := rfl) (u0 := u0) (uB := uB))))
      (ssb_cons (sb_set (i := 5) sc.nd rfl (Or.inl rfl) (eb_c c_last_of hr (Nat.le_refl _) rfl (pa_cons (pe_ix ix_tup (pv 3) pe_int (fun _ _ => rfl)) (pa_cons (pv 4) pa_nil))))
        (ssb_one (Sb.of (ps_if (pt_chain op_lt op_lt pe_int (pe_callB call_len (by rfl) T.len_ (by decide +kernel) (pa_cons (pv 5) pa_nil)) (pv 4))
        (pss_one (ps_set (i := 5) sc.nd rfl (Or.inl rfl) (pe_op op_mul_str (pv 5) (pe_callB (call_min2 rfl) (by rfl) T.min_ (by decide +kernel) (pa_cons (pe_ix ix_tup (pv 3) pe_int (fun _ _ => rfl)) (pa_cons (pe_op op_add (pe_op op_fdiv (pv 4) (pe_callB call_len (by rfl) T.len_ (by decide +kernel) (pa_cons (pv 5) pa_nil))) pe_int) pa_nil))))))
        (pss_one (ps_if (pt_cmpR op_eq (pe_ix ix_tup (pv 3) pe_int (fun _ _ => rfl)) pe_int (nomark _))
          (pss_one (ps_set (i := 5) sc.nd rfl (Or.inl rfl) pe_str))
          pss_nil)))))))
      (ssb_one (Sb.of (ps_set (i := 2) sc.nd rfl (Or.inl rfl) (pe_op op_add_str (pe_slice C8.sl_txt (pv 5) (po_some (pe_callB (call_max2 rfl) (by rfl) T.max_ (by decide +kernel) (pa_cons pe_int (pa_cons (pe_op op_sub (pe_callB call_len (by rfl) T.len_ (by decide +kernel) (pa_cons (pv 5) pa_nil)) (pv 4)) pa_nil)))) po_none) (pv 2)))))))))
    (ssb_one (Sb.of (ps_ret (pv 2)))))), ?_⟩
    obtain ⟨a, vs, rfl, ha, hvs⟩ := hv
    have hl : vs.length = is.length := Paired.len hvs
    refine tset_c ?_
    refine ⟨_, rfl, a, vs, rfl, .inl (.inl ha), fun pr hpr => ?_⟩
    have e0 : Ex H (upd H pr (.lst vs.reverse)) := Ex.new hpr
    have hpr0 : upd H pr (.lst vs.reverse) pr = some (.lst vs.reverse) := upd_same
    generalize upd H pr (.lst vs.reverse) = H0 at e0 hpr0
    have hvr := paired_rev hvs
    refine ⟨pr, rfl, ⟨_, .inl (.inl hpr0)⟩, ?_⟩
    refine for_it (D := { nx := _, rt := _ }) (walk_list (K := K) (a := pr) (xs := vs.reverse))
      (fun i σ H' => ∃ o3 o4 o5 : Option V, σ = [some (.ref a), some (.int (count : Int)), some (.str (SX.S ((is.reverse.take i).foldl (lastItem count) []))), o3, o4, o5] ∧ Ex H0 H')
      ⟨none, none, none, by show _ = [some (V.ref a), some (V.int (count : Int)), some (V.str (SX.S [])), none, none, none]; rw [← empty_S']; rfl, Ex.refl _⟩ (fun i σ H' _ p => .inl (.inl (by obtain ⟨_, _, _, _, e⟩ := p; exact e _ _ hpr0))) ?_ ?_
    · rintro i x σ H1 H2 hi ⟨o3, o4, o5, rfl, e⟩ ⟨rfl, hx⟩
      obtain ⟨it, hit, rx⟩ := Paired.at hvr hx
      rw [fold_snoc (lastItem count) [] hit]
      have hle : ((is.reverse.take i).foldl (lastItem count) []).length ≤ count := lastItems_le _ (Nat.zero_le _)
      have hdone : count - ((is.reverse.take i).foldl (lastItem count) []).length = 0 → lastOf is count = (is.reverse.take i).foldl (lastItem count) [] := fun h => by
        have e1 : lastOf is count = ((is.reverse.take i) ++ (is.reverse.drop i)).foldl (lastItem count) [] := by rw [List.take_append_drop]; rfl
        rw [e1, List.foldl_append]
        exact lastItems_full _ h
      generalize (is.reverse.take i).foldl (lastItem count) [] = found at hle hdone
      have rx := rx.mono (e0.trans e)
      have hm : it ∈ is := List.mem_reverse.mp (List.mem_of_getElem? hit)
      refine ⟨_, rfl, _, rfl, _, _, rfl, ⟨Sle (by omega), rfl⟩, _, _, rfl, rfl, ?_⟩
      rw [Slen]
      refine ⟨_, rfl, rfl, _, rfl, ifD (fun c => ?_) fun c => ?_⟩
      · have c : count - found.length = 0 := by have := V_int.mp c; omega
        refine ⟨_, rfl, ?_⟩
        have := k _ (e0.trans e)
        rwa [hdone c] at this
      have hpos : ¬ count - found.length = 0 := fun q => c (V_int.mpr (by omega))
      have eleft : (count : Int) - (found.length : Int) = ((count - found.length : Nat) : Int) := by omega
      -- behind the letters
      have fin : ∀ (letters : List Nat) (H5 : Hp), Ex H2 H5 → letters.length ≤ 2000 → lastItem count found it = lastJoin count found letters →
          tAsg (tOp rCatS (tSl C8.rSlX (tVar 5) (tPart (tCB (fun xs H Q => ∃ i j, xs = [.int i, .int j] ∧ Q (.int (if j > i then j else i)) H) (tCons (tC (.int 0)) (tCons (tOp (rI0 fun i j => .int (i - j)) (tCB (fun xs H Q => ∃ x n, xs = [x] ∧ LenV K x H n ∧ Q (.int (n : Nat)) H) (tCons (tVar 5) tNil)) (tVar 4)) tNil)))) tNoPart) (tVar 2)) (gName 2)
            { nx := fun σ' H' => ∃ o3 o4 o5 : Option V, σ' = [some (.ref a), some (.int (count : Int)), some (.str (SX.S (lastItem count found it))), o3, o4, o5] ∧ Ex H0 H', rt := Q }
            [some (.ref a), some (.int (count : Int)), some (.str (SX.S found)), some x, some (.int ((count : Int) - (found.length : Int))), some (.str (SX.S letters))] H5 := fun letters H5 e5 hl5 hj => by
        have esl : (SX.S letters).length = letters.length := Slen letters
        have em : (if (letters.length : Int) - ((count : Int) - (found.length : Int)) > 0 then (letters.length : Int) - ((count : Int) - (found.length : Int)) else 0) = ((letters.length - (count - found.length) : Nat) : Int) := by split <;> omega
        refine ⟨_, rfl, _, rfl, _, _, rfl, ⟨Sle (by omega), rfl⟩, _, rfl, _, _, rfl, rfl, _, _, rfl, _, rfl, _, rfl, Sle (by omega), _, rfl, _, _, rfl, rfl, ?_, ?_⟩
        · rw [esl, em, Slice letters rfl]
          exact Sle2 (by rw [List.length_drop]; omega) (by omega)
        · refine ⟨some x, some (.int ((count : Int) - (found.length : Int))), some (.str (SX.S letters)), ?_, e.trans e5⟩
          rw [esl, em, Slice letters rfl, Scat, hj]
          rfl
      cases it with
      | t s =>
        have ex : x = .str (SX.S s) := rx
        subst ex
        have hs : s.length ≤ 1000 := (hok.ok _ hm).1
        have hpl : (putsOf s).length ≤ s.length := List.length_filter_le _ _
        refine ⟨_, rfl, _, _, _, _, _, rfl, .ty _, .base (.str _), kit_str_str, _, rfl, ifT rfl ?_⟩
        refine ⟨s, rfl, by omega, ?_⟩
        exact fin (putsOf s) H2 (Ex.refl _) (by omega) (if_neg hpos)
      | r b n =>
        obtain ⟨b0, c0, rfl, hb, hc⟩ := rx
        have hfl := lastOf_le (b.map Pc.t) (count - found.length)
        rw [lastOf_flat] at hfl
        refine ⟨_, rfl, _, _, _, _, _, rfl, .ty _, .base (.tup hb), kit_tup_str, _, rfl, ifF rfl ?_⟩
        refine ⟨_, rfl, b0, _, _, _, rfl, rfl, .inl (.inl hb), at0, _, rfl, _, b.map Pc.t, count - found.length, by show [V.ref c0, V.int ((count : Int) - (found.length : Int))] ++ [] = _; rw [eleft]; rfl, ⟨c0, _, rfl, hc, seqs_its b⟩, deep_down hdp hm, itsOk_body hok hm, by omega, fun H3 e3 => ?_⟩
        rw [lastOf_flat]
        have hb3 := e3 _ _ hb
        have hitem : ∀ letters, lastRep (lastFlat b (count - found.length)) n (count - found.length) = letters → lastItem count found (.r b n) = lastJoin count found letters := fun letters hq => by
          unfold lastItem
          rw [if_neg hpos]
          show lastJoin count found (lastRep _ _ _) = _
          rw [hq]
        generalize lastFlat b (count - found.length) = l at hfl hitem
        refine ⟨_, rfl, _, _, rfl, ⟨Sle (by omega), rfl⟩, _, _, rfl, rfl, _, rfl, ?_⟩
        rw [Slen]
        have zero : ¬ (0 < l.length ∧ l.length < count - found.length) → tIfS (tTest (tOp rEq (tOp (rIxT K) (tVar 3) (tC (.int 1))) (tC (.int 0)))) (tAsg (tC (.str "")) (gName 5)) tNext
            { nx := fun σ' H' => (tAsg (tOp rCatS (tSl C8.rSlX (tVar 5) (tPart (tCB (fun xs H Q => ∃ i j, xs = [.int i, .int j] ∧ Q (.int (if j > i then j else i)) H) (tCons (tC (.int 0)) (tCons (tOp (rI0 fun i j => .int (i - j)) (tCB (fun xs H Q => ∃ x n, xs = [x] ∧ LenV K x H n ∧ Q (.int (n : Nat)) H) (tCons (tVar 5) tNil)) (tVar 4)) tNil)))) tNoPart) (tVar 2)) (gName 2)) { nx := fun σ' H' => ∃ o3 o4 o5 : Option V, σ' = [some (.ref a), some (.int (count : Int)), some (.str (SX.S (lastItem count found (.r b n)))), o3, o4, o5] ∧ Ex H0 H', rt := Q } σ' H', rt := Q }
            [some (.ref a), some (.int (count : Int)), some (.str (SX.S found)), some (.ref b0), some (.int ((count : Int) - (found.length : Int))), some (.str (SX.S l))] H3 := fun hno => by
          refine ⟨_, rfl, b0, _, _, _, rfl, rfl, .inl (.inl hb3), at1, rfl, _, rfl, ifD (fun c2 => ?_) fun c2 => ?_⟩
          · have c2 : n = 0 := by have := V_int.mp c2; omega
            have := fin [] H3 e3 (by decide) (hitem _ (by unfold lastRep; rw [if_neg hno, if_pos c2]))
            rw [← empty_S'] at this
            exact this
          · have c2 : ¬ n = 0 := fun q => c2 (V_int.mpr (by omega))
            exact fin l H3 e3 (by omega) (hitem _ (by unfold lastRep; rw [if_neg hno, if_neg c2]))
        refine ifD (fun c1 => ?_) fun c1 => ?_
        · refine ⟨_, rfl, _, _, rfl, rfl, _, rfl, ifD (fun c2 => ?_) fun c2 => ?_⟩
          · have h1 : 0 < l.length ∧ l.length < count - found.length := ⟨by omega, by omega⟩
            have hd0 : (count - found.length) / l.length * l.length ≤ count - found.length := Nat.div_mul_le_self _ _
            have hd1 : (count - found.length) / l.length ≤ count - found.length := Nat.div_le_self _ _
            have ediv : ((count : Int) - (found.length : Int)) / (l.length : Int) = (((count - found.length) / l.length : Nat) : Int) := by rw [eleft]; exact (Int.natCast_ediv _ _).symm
            refine ⟨_, rfl, _, rfl, b0, _, _, _, rfl, rfl, .inl (.inl hb3), at1, _, rfl, _, rfl, _, _, rfl, ⟨Sle (by omega), rfl⟩, _, _, rfl, rfl, ⟨by rw [Slen]; omega, by rw [Slen]; omega⟩, _, _, rfl, rfl, _, _, rfl, l, _, rfl, rfl, ?_⟩
            rw [Slen, ediv]
            have em : (if ((((count - found.length) / l.length : Nat) : Int) + 1) < (n : Int) then ((((count - found.length) / l.length : Nat) : Int) + 1) else (n : Int)) = ((min n ((count - found.length) / l.length + 1) : Nat) : Int) := by split <;> omega
            rw [em]
            have hmul : l.length * min n ((count - found.length) / l.length + 1) ≤ 2000 := by
              have h2 : l.length * min n ((count - found.length) / l.length + 1) ≤ l.length * ((count - found.length) / l.length + 1) := Nat.mul_le_mul_left _ (Nat.min_le_right _ _)
              have h3 : l.length * ((count - found.length) / l.length + 1) = (count - found.length) / l.length * l.length + l.length := by rw [Nat.mul_add, Nat.mul_one, Nat.mul_comm]
              omega
            have hmn : min n ((count - found.length) / l.length + 1) ≤ 1001 := Nat.le_trans (Nat.min_le_right _ _) (by omega)
            have hitem1 := hitem (times (min n ((count - found.length) / l.length + 1)) l) (by unfold lastRep; rw [if_pos h1])
            generalize min n ((count - found.length) / l.length + 1) = z at hmn hmul hitem1
            refine ⟨⟨by omega, by omega⟩, by omega, by rw [Int.toNat_natCast]; omega, ?_⟩
            rw [Int.toNat_natCast]
            refine fin (times z l) H3 e3 ?_ hitem1
            rw [times_length, Nat.mul_comm]
            exact hmul
          · exact zero (by omega)
        · exact ⟨_, rfl, ifF rfl (zero (by omega))⟩
    · rintro σ H1 ⟨o3, o4, o5, rfl, e⟩
      refine ⟨_, rfl, ?_⟩
      have := k _ (e0.trans e)
      rwa [show lastOf is count = (is.reverse.take vs.reverse.length).foldl (lastItem count) [] from by rw [fold_all _ _ (by rw [List.length_reverse, List.length_reverse, hl])]; rfl] at this
end
end Fq

set_option Elab.async false
set_option linter.all false
set_option maxRecDepth 100000
set_option maxHeartbeats 4000000
namespace Fq
open PySem PySem.Spec PyProof.Rows L2
open Evl (Ex Ex.refl Ex.trans Ex.new Ex.mut fresh_back ex_l ex_t sq_of st_of)
section
variable {P : Program} {w : World} {K : PySem.W.Frag} {mg : Str → Option Value} {base : Heap}
theorem calB_never {B : Nat} {x : Str} {st : Stmt} {f : Addr} {fd : FuncData} {N ps : List Str} {k : Nat} {sp : Sp} (F : FunD K x x (defArgs st) (defBody st) (defScope st) [] [] f fd) (hm : mg x = some (.ref f))
    (b : Binds K fd ps []) (S : FnScope N ps (defScope st)) (never : ∀ vs H Q E, ¬ sp vs H Q E) : CalB B P w K mg base (k + 1) x sp :=
  calB_of F hm b S (fun vs H Q E h => absurd h (never vs H Q E)) fun _ _ _ _ H vs Q E _ h => absurd h (never vs H Q E)
theorem c_last_of {B : Nat} {u : Tok} (T : Tx K mg) (hTK : mg "TAKE" = some (.str "-" u)) (u0 : u ≠ 0) (uB : u < B) : CalB B P w K mg base 3 "last_of" (sp_last_of 2) := by
  have c0 : CalB B P w K mg base 1 "last_of" (sp_last_of 0) := by
    obtain ⟨fd, F⟩ := T.d_last_of
    refine calB_never F T.m_last_of (F.bindsN (ps := ["items", "count"]) fun _ _ _ _ _ _ us hl => match us, hl with | [_, _], _ => rfl) last_of_scope fun vs H Q E h => ?_
    obtain ⟨_, _, _, _, _, h, _⟩ := h
    exact h
  have c1 := c_last_of_step (d := 0) (L := 1) T hTK u0 uB c0
  exact c_last_of_step (d := 1) (L := 2) T hTK u0 uB c1
theorem Sle2' (a b : List Nat) (h : a.length + b.length ≤ 100000) : (SX.S a ++ SX.S b).length ≤ sizeLine := by
  rw [Scat]
  exact Sle (by rw [List.length_append]; exact h)
theorem result_by_length_scope : FnScope ["items", "five", "capacity", "mode", "queue", "limits", "offset", "end", "text"] ["items", "five", "capacity", "mode", "queue"] (defScope s_result_by_length) := ⟨rfl, rfl, rfl, by decide +kernel, rfl, by decide +kernel, by decide +kernel⟩
theorem c_result_by_length {B : Nat} (T : Tx K mg) (c_last_of : CalB B P w K mg base 3 "last_of" (sp_last_of 2)) (c_start_range : C8.Cal P w K mg base 1 "start_range" (sp_start_range K) []) : CalB B P w K mg base 4 "result_by_length" (sp_result_by_length K) := by
  obtain ⟨fd, F⟩ := T.d_result_by_length
  refine calB_of F T.m_result_by_length (F.bindsN (ps := ["items", "five", "capacity", "mode", "queue"]) fun _ _ _ _ _ _ us hl => match us, hl with | [_, _, _, _, _], _ => rfl) result_by_length_scope (fun vs H Q E h => ?_) (fun cdv A outer s H vs Q E hr h => ?_)
  · obtain ⟨v, w2, is, f, C, m, q, rfl, _⟩ := h
    rfl
  · have sc := result_by_length_scope
    obtain ⟨v, w2, is, f, C, m, q, rfl, hv, hw, hf, hok, hC, hq, k⟩ := h
    refine ⟨_, (ssb_cons (Sb.of (ps_set (i := 5) sc.nd rfl (Or.inl rfl) (C8.pe_c c_start_range hr (by decide) rfl (pa_cons (pv 1) (pa_cons (pv 2) (pa_cons (pv 3) pa_nil))))))
    (ssb_cons (Sb.of (ps_if (PW.pt (pw_or (pt_cmpR op_isN (pv 5) pe_non (nomark _)) (pw_or1 (pt_not (pt_chain op_le op_le (pe_ix ix_tup (pv 5) pe_int (fun _ _ => rfl)) (pe_callB call_len (by rfl) T.len_ (by decide +kernel) (pa_cons (pv 4) pa_nil)) (pe_ix ix_tup (pv 5) pe_int (fun _ _ => rfl)))))))
    (pss_one (ps_ret pe_non))
    pss_nil))
    (ssb_cons (Sb.of (ps_set (i := 6) sc.nd rfl (Or.inl rfl) (pe_op op_sub (pe_ix ix_tup (pv 1) pe_int (fun _ _ => rfl)) (pe_ix ix_tup (pv 1) pe_int (fun _ _ => rfl)))))
    (ssb_cons (Sb.of (ps_set (i := 7) sc.nd rfl (Or.inl rfl) (pe_callB (call_min2 rfl) (by rfl) T.min_ (by decide +kernel) (pa_cons (pe_op op_add (pe_callB call_len (by rfl) T.len_ (by decide +kernel) (pa_cons (pv 4) pa_nil)) (pv 6)) (pa_cons (pe_op op_sub (pe_op op_add (pv 2) (pv 6)) (pe_ix ix_tup (pv 1) pe_int (fun _ _ => rfl))) pa_nil)))))
    (ssb_cons (sb_set (i := 8) sc.nd rfl (Or.inl rfl) (eb_op op_add_str (pv 4) (eb_c c_last_of hr (by decide) rfl (pa_cons (pv 0) (pa_cons (pv 7) pa_nil)))))
    (ssb_one (Sb.of (ps_ret (pe_slice C8.sl_txt (pv 8) (po_some (pe_op op_sub (pe_callB call_len (by rfl) T.len_ (by decide +kernel) (pa_cons (pv 8) pa_nil)) (pv 7))) po_none))))))))), ?_⟩
    obtain ⟨fa, rfl, hfa⟩ := hw
    obtain ⟨va, vvs, rfl, hva, hvs⟩ := hv
    have hv0 : PrgV H (.ref va) is := ⟨va, vvs, rfl, hva, hvs⟩
    refine ⟨_, rfl, _, rfl, _, rfl, .ref fa, f, C, m, rfl, ⟨fa, rfl, hfa⟩, fun v1 H1 e1 q1 => ?_⟩
    have k1 := fun H' e => k H' (e1.trans e)
    have hfa1 := ex_t e1 hfa
    have hv1 := hv0.mono e1
    have hlim : ∀ lo hi : Int, startRange f C m = some (lo, hi) → lo = -f.2.2.1 ∧ (f.2.2.2.2 ≤ C ∨ f.2.2.2.1 - f.2.2.1 ≤ C) := fun lo hi h => by
      cases m <;> (simp only [startRange] at h; split at h <;> cases h)
      · exact ⟨rfl, .inl (by assumption)⟩
      · exact ⟨rfl, .inl (by assumption)⟩
      · exact ⟨rfl, .inr (by assumption)⟩
    unfold resultByLength at k1
    cases hs : startRange f C m with
    | none =>
      rw [hs] at q1 k1
      have ev : v1 = .non := q1
      subst ev
      refine ⟨_, rfl, rfl, _, rfl, ifT non_non ?_⟩
      exact k1 _ (Ex.refl _)
    | some p =>
      obtain ⟨lo, hi⟩ := p
      rw [hs] at q1 k1
      obtain ⟨pa, rfl, hpa⟩ := q1
      obtain ⟨elo, hcap⟩ := hlim lo hi hs
      refine ⟨_, rfl, rfl, _, rfl, ifF ref_non ?_⟩
      refine ⟨_, rfl, pa, _, _, _, rfl, rfl, .inl (.inl hpa), at0, _, rfl, _, _, rfl, ⟨Sle (by omega), rfl⟩, _, _, rfl, rfl, _, rfl, ?_⟩
      rw [Slen]
      have no : ¬ (lo ≤ (q.length : Int) ∧ (q.length : Int) ≤ hi) → Q .non H1 := fun h => by
        have := k1 _ (Ex.refl _)
        simp only [if_neg h] at this
        exact this
      refine ifD (fun c1 => ?_) fun c1 => ⟨_, rfl, ifT rfl (no fun h => c1 h.1)⟩
      refine ⟨_, rfl, pa, _, _, _, rfl, rfl, .inl (.inl hpa), at1, _, _, rfl, rfl, _, rfl, ?_⟩
      by_cases c2 : (q.length : Int) ≤ hi
      · have yes : lo ≤ (q.length : Int) ∧ (q.length : Int) ≤ hi := ⟨c1, c2⟩
        simp only [if_pos yes] at k1
        refine ifF (by rw [decide_eq_true c2]; rfl) ?_
        refine ⟨_, rfl, fa, _, _, _, rfl, rfl, hfa1, at0, _, rfl, fa, _, _, _, rfl, rfl, hfa1, at1, _, _, rfl, rfl, ?_⟩
        refine ⟨_, rfl, _, _, rfl, ⟨Sle (by omega), rfl⟩, _, rfl, _, _, rfl, rfl, _, rfl, _, rfl, _, _, rfl, rfl, _, rfl, fa, _, _, _, rfl, rfl, hfa1, at3, _, _, rfl, rfl, _, _, rfl, ?_⟩
        rw [Slen, min_if]
        have em : min ((q.length : Int) + (f.1 - f.2.1)) ((C : Int) + (f.1 - f.2.1) - f.2.2.2.1) = endOf f C q.length := rfl
        rw [em]
        obtain ⟨g1, g2, g3, g4, g5, g6, g7⟩ := hf
        have e0 : 0 ≤ endOf f C q.length := by
          unfold endOf
          rcases hcap with h | h <;> omega
        have e1' : endOf f C q.length ≤ C := by unfold endOf; omega
        have e2' : endOf f C q.length ≤ (q.length : Int) + f.1 := by unfold endOf; omega
        obtain ⟨en, hen⟩ : ∃ n : Nat, endOf f C q.length = (n : Int) := ⟨_, (Int.toNat_of_nonneg e0).symm⟩
        rw [hen] at e1' e2' k1 ⊢
        rw [Int.toNat_natCast] at k1
        have hlen := g1 en
        refine ⟨_, rfl, _, rfl, _, rfl, .ref va, is, en, rfl, hv1, trivial, hok, by omega, fun H2 e2 => ?_⟩
        have hll : (lastOf is en).length ≤ en := lastOf_le is en
        refine ⟨_, _, rfl, rfl, Sle2 (by omega) (by omega), ?_⟩
        refine ⟨_, rfl, _, rfl, _, _, rfl, ⟨?_, rfl⟩, _, rfl, _, _, rfl, rfl, _, rfl, _, rfl, ?_, ?_⟩
        · exact Sle2' q (lastOf is en) (by omega)
        · exact Sle2' q (lastOf is en) (by omega)
        · rw [Scat, Slen, Slice (q ++ lastOf is en) (k := (q ++ lastOf is en).length - en) (by rw [List.length_append]; omega)]
          exact k1 _ e2
      · refine ifT (by rw [decide_eq_false c2]; rfl) (no fun h => c2 h.2)
end
end Fq

set_option Elab.async false
set_option linter.all false
set_option maxRecDepth 100000
set_option maxHeartbeats 4000000
namespace Fq
open PySem PySem.Spec PyProof.Rows L2
open Evl (Ex Ex.refl Ex.trans Ex.new Ex.mut fresh_back ex_l ex_t sq_of st_of)
section
variable {P : Program} {w : World} {K : PySem.W.Frag} {mg : Str → Option Value} {base : Heap}
theorem bools_of {fs : List Fact} {g : Fact → Bool} {ys : List V} (hp : Paired (fun i y => ∃ f, fs[i]? = some f ∧ y = V.bl (g f)) ((List.range fs.length).filter fun _ => true) ys) : ys = (fs.map g).map V.bl := by
  have hl := Paired.len hp
  rw [filt_all] at hp hl
  rw [List.length_range] at hl
  refine List.ext_getElem? fun i => ?_
  rw [List.getElem?_map, List.getElem?_map]
  cases h1 : ys[i]? with
  | none =>
    have h2 : fs.length ≤ i := by rw [hl]; exact List.getElem?_eq_none_iff.mp h1
    rw [List.getElem?_eq_none h2]
    rfl
  | some y =>
    obtain ⟨j, hj, f, q1, q2⟩ := Paired.at' hp h1
    have ej := range_at hj
    subst ej
    rw [q1, q2]
    rfl
theorem dec_opt (a b : Option (List Nat)) : decide (optV a = optV b) = decide (a = b) := decide_eq_decide.mpr optV_eq
theorem any_map {α : Type} (l : List α) (g : α → Bool) : (l.map g).any id = l.any g := by
  rw [List.any_map]
  rfl
theorem all_map {α : Type} (l : List α) (g : α → Bool) : (l.map g).all id = l.all g := by
  rw [List.all_map]
  rfl
theorem fits_scope : FnScope ["items", "five", "capacity", "mode", "facts", "queue", "result"] ["items", "five", "capacity", "mode", "facts"] (defScope s_fits) := ⟨rfl, rfl, rfl, by decide +kernel, rfl, by decide +kernel, by decide +kernel⟩
theorem c_fits_step {d L B : Nat} (hL : 6 ≤ L) (T : Tx K mg) (c_fits : CalB B P w K mg base L "fits" (sp_fits K d)) (c_result_by_length : CalB B P w K mg base 4 "result_by_length" (sp_result_by_length K)) (c_result_by_row : C8.Cal P w K mg base 6 "result_by_row" sp_result_by_row []) : CalB B P w K mg base (L + 1) "fits" (sp_fits K (d + 1)) := by
  obtain ⟨fd, F⟩ := T.d_fits
  refine calB_of F T.m_fits (F.bindsN (ps := ["items", "five", "capacity", "mode", "facts"]) fun _ _ _ _ _ _ us hl => match us, hl with | [_, _, _, _, _], _ => rfl) fits_scope (fun vs H Q E h => ?_) (fun cdv A outer s H vs Q E hr h => ?_)
  · obtain ⟨v, w2, u, is, f, C, m, fs, rfl, _⟩ := h
    rfl
  · have sc := fits_scope
    obtain ⟨v, w2, u, is, f, C, m, fs, rfl, hd0, hd1, hv, hw, hu, hf, hok, hg, hlen, hC, k⟩ := h
    refine ⟨_, (ssb_cons (Sb.of (ps_if (pt_val (pe_callB (cr_any rfl) (by rfl) T.any_ (by decide +kernel) (pa_cons (pe_lc (own := [("queue", 5), ("result", 6)]) (g := gTup K 2 (gCons (gName 5) (gCons (gName 6) gNil))) (tt := tYes) (te := tOp (rI0 fun i j => .bl (decide (j < i))) (tCB (fun xs H Q => ∃ x n, xs = [x] ∧ LenV K x H n ∧ Q (.int (n : Nat)) H) (tCons (tVar 5) tNil)) (tVar 2)) rfl sc.nd (pi_list (pv 4)) (blkOk_by (N := ["items", "five", "capacity", "mode", "facts", "queue", "result"]) (sc := defScope s_fits) (by decide +kernel)) (fun _ _ _ _ _ => (pg_tup rfl (pgs_cons (pg_name (i := 5) sc.nd rfl (Or.inl rfl)) (pgs_cons (pg_name (i := 6) sc.nd rfl (Or.inl rfl)) pgs_nil)))) (fun _ _ _ _ _ => pts_nil) (fun _ _ _ _ _ => (pe_cmpR op_gt (pe_callB call_len (by rfl) T.len_ (by decide +kernel) (pa_cons (pv 5) pa_nil)) (pv 2) (nomark _)))) pa_nil)))
    (pss_one (ps_ret pe_bl))
    pss_nil))
    (ssb_cons (sb_if (pt_cmpR op_ne (pv 3) pe_str (nomark _))
    (ssb_one (sb_ret (eb_callB1 (cr_all rfl) (by rfl) T.all_ (by decide +kernel) (eb_lc (own := [("queue", 5), ("result", 6)]) (g := gTup K 2 (gCons (gName 5) (gCons (gName 6) gNil))) (tt := tYes) rfl sc.nd (pi_list (pv 4)) (blkOk_by (N := ["items", "five", "capacity", "mode", "facts", "queue", "result"]) (sc := defScope s_fits) (by decide +kernel)) (fun _ _ _ _ _ => (pg_tup rfl (pgs_cons (pg_name (i := 5) sc.nd rfl (Or.inl rfl)) (pgs_cons (pg_name (i := 6) sc.nd rfl (Or.inl rfl)) pgs_nil)))) (fun _ _ _ _ _ => (Tsb.of pts_nil)) (fun _ _ _ _ _ => (eb_cmp op_eq (eb_c c_result_by_length hr (by omega) rfl (pa_cons (pv 0) (pa_cons (pv 1) (pa_cons (pv 2) (pa_cons (pv 3) (pa_cons (pv 5) pa_nil)))))) (pv 6) (nomark _)))))))
    (Ssb.of pss_nil))
    (ssb_cons (sb_if (pt_val (pe_callB (cr_all rfl) (by rfl) T.all_ (by decide +kernel) (pa_cons (pe_lc (own := [("queue", 5), ("result", 6)]) (g := gTup K 2 (gCons (gName 5) (gCons (gName 6) gNil))) (tt := tYes) (te := tOp (rI0 fun i j => .bl (decide (i ≤ j))) (tOp (rI0 fun i j => .int (i + j)) (tCB (fun xs H Q => ∃ x n, xs = [x] ∧ LenV K x H n ∧ Q (.int (n : Nat)) H) (tCons (tVar 5) tNil)) (tOp (rIxT K) (tVar 1) (tC (.int 3)))) (tVar 2)) rfl sc.nd (pi_list (pv 4)) (blkOk_by (N := ["items", "five", "capacity", "mode", "facts", "queue", "result"]) (sc := defScope s_fits) (by decide +kernel)) (fun _ _ _ _ _ => (pg_tup rfl (pgs_cons (pg_name (i := 5) sc.nd rfl (Or.inl rfl)) (pgs_cons (pg_name (i := 6) sc.nd rfl (Or.inl rfl)) pgs_nil)))) (fun _ _ _ _ _ => pts_nil) (fun _ _ _ _ _ => (pe_cmpR op_le (pe_op op_add (pe_callB call_len (by rfl) T.len_ (by decide +kernel) (pa_cons (pv 5) pa_nil)) (pe_ix ix_tup (pv 1) pe_int (fun _ _ => rfl))) (pv 2) (nomark _)))) pa_nil)))
    (ssb_one (sb_ret (eb_c c_fits hr (Nat.le_refl _) rfl (pa_cons (pv 0) (pa_cons (pv 1) (pa_cons (pv 2) (pa_cons pe_str (pa_cons (pv 4) pa_nil))))))))
    (Ssb.of pss_nil))
    (ssb_one (Sb.of (ps_ret (pe_callB (cr_all rfl) (by rfl) T.all_ (by decide +kernel) (pa_cons (pe_lc (own := [("queue", 5), ("result", 6)]) (g := gTup K 2 (gCons (gName 5) (gCons (gName 6) gNil))) (tt := tYes) rfl sc.nd (pi_list (pv 4)) (blkOk_by (N := ["items", "five", "capacity", "mode", "facts", "queue", "result"]) (sc := defScope s_fits) (by decide +kernel)) (fun _ _ _ _ _ => (pg_tup rfl (pgs_cons (pg_name (i := 5) sc.nd rfl (Or.inl rfl)) (pgs_cons (pg_name (i := 6) sc.nd rfl (Or.inl rfl)) pgs_nil)))) (fun _ _ _ _ _ => pts_nil) (fun _ _ _ _ _ => (pe_cmpR op_eq (C8.pe_c c_result_by_row hr (by omega) rfl (pa_cons (pv 0) (pa_cons (pv 2) (pa_cons (pv 3) (pa_cons (pv 5) pa_nil))))) (pv 6) (nomark _)))) pa_nil)))))))), ?_⟩
    obtain ⟨fa, fvs, rfl, hfa, hfvs⟩ := hu
    have hlf : fvs.length = fs.length := Paired.len hfvs
    have hfs : FactsV H (.ref fa) fs := ⟨fa, fvs, rfl, hfa, hfvs⟩
    refine ⟨_, rfl, fa, rfl, ⟨_, .inl (.inl hfa)⟩, fun D hD => ?_⟩
    rw [← hlf] at hlen
    refine lc_gen (walk_list (K := K) (a := fa) (xs := fvs)) hD (by omega) (fun H' e => .inl (.inl (e _ _ hfa))) (fun i H x H' y => by rw [y.1]; exact Ex.refl _) (fun _ => true) (fun i y H => ∃ f : Fact, fs[i]? = some f ∧ y = V.bl (decide (C < f.1.length))) (fun i y H H' e q => q) ?_ fun ys H1 e1 hy hp2 => ?_
    · intro i x H7 H8 Acc Nn hi e7 e8 y ka kn
      obtain ⟨rfl, hx⟩ := y
      obtain ⟨ff, hff, fp, rfl, hfp⟩ := Paired.at hfvs hx
      have gf := hg ff (List.mem_of_getElem? hff)
      have hfp := e7 _ _ hfp
      refine ⟨fp, _, rfl, .inl (.inl hfp), rfl, _, _, rfl, _, _, rfl, rfl, rfl, tyes ?_⟩
      refine ⟨_, rfl, _, _, rfl, ⟨Sle (by have := gf.1; omega), rfl⟩, _, rfl, _, _, rfl, rfl, ka rfl _ _ (Ex.refl _) ⟨ff, hff, ?_⟩⟩
      show V.bl (decide ((C : Int) < ((SX.S ff.1).length : Int))) = _
      rw [Slen]
      exact congrArg V.bl (decide_eq_decide.mpr Int.ofNat_lt)
    have hys := bools_of (by rw [← hlf]; exact hp2)
    subst hys
    refine ⟨D, fs.map fun f => decide (C < f.1.length), rfl, .inl (.inl hy), ?_⟩
    rw [any_map]
    have hfs1 := hfs.mono e1
    refine ⟨_, rfl, ?_⟩
    unfold Fq.fits at k
    refine ifS (fun c => ?_) fun c => ?_
    · rw [if_pos c] at k
      exact k _ e1
    rw [if_neg (by rw [c]; exact Bool.false_ne_true)] at k
    have short : ∀ f ∈ fs, f.1.length ≤ C := fun f hf => by
      have q := List.any_eq_false.mp c f hf
      simpa using q
    have hfa1 := e1 _ _ hfa
    refine ⟨_, rfl, rfl, _, rfl, ?_⟩
    by_cases hm : m = .newest
    · subst hm
      refine ifF (by decide +kernel) ?_
      simp only at k
      have hw1 := hw.mono e1
      obtain ⟨va, rfl, hva⟩ := id hw
      have hva1 := ex_t e1 hva
      refine ⟨_, rfl, fa, rfl, ⟨_, .inl (.inl hfa1)⟩, fun D2 hD2 => ?_⟩
      refine lc_gen (walk_list (K := K) (a := fa) (xs := fvs)) hD2 (by omega) (fun H' e => .inl (.inl (e _ _ hfa1))) (fun i H x H' y => by rw [y.1]; exact Ex.refl _) (fun _ => true) (fun i y H => ∃ g : Fact, fs[i]? = some g ∧ y = V.bl (decide ((g.1.length : Int) + f.2.2.2.1 ≤ (C : Int)))) (fun i y H H' e q => q) ?_ fun ys H2 e2 hy2 hp3 => ?_
      · intro i x H7 H8 Acc Nn hi e7 e8 y ka kn
        obtain ⟨rfl, hx⟩ := y
        obtain ⟨ff, hff, fp, rfl, hfp⟩ := Paired.at hfvs hx
        have gf := hg ff (List.mem_of_getElem? hff)
        have hfp := e7 _ _ (e1 _ _ hfp)
        have hva7 := ex_t e7 hva1
        refine ⟨fp, _, rfl, .inl (.inl hfp), rfl, _, _, rfl, _, _, rfl, rfl, rfl, tyes ?_⟩
        refine ⟨_, rfl, _, _, rfl, ⟨Sle (by have := gf.1; omega), rfl⟩, _, rfl, va, _, _, _, rfl, rfl, hva7, at3, _, _, rfl, rfl, _, rfl, _, _, rfl, rfl, ka rfl _ _ (Ex.refl _) ⟨ff, hff, ?_⟩⟩
        show V.bl (decide (((SX.S ff.1).length : Int) + f.2.2.2.1 ≤ (C : Int))) = _
        rw [Slen]
      have hys := bools_of (by rw [← hlf]; exact hp3)
      subst hys
      have e12 := e1.trans e2
      refine ⟨D2, _, rfl, .inl (.inl hy2), ?_⟩
      rw [all_map]
      refine ⟨_, rfl, ifS (fun c2 => ?_) fun c2 => ?_⟩
      · rw [if_pos c2] at k
        refine ⟨_, rfl, _, rfl, _, rfl, _, rfl, v, .ref va, .ref fa, is, f, C, .oldest, fs, rfl, fun h => ?_, fun _ h => (nomatch h), hv.mono e12, hw.mono e12, hfs.mono e12, hf, hok, hg, by omega, hC, fun H3 e3 => ?_⟩
        · subst h
          exact hd1 rfl rfl
        · have := k _ (e12.trans e3)
          unfold Fq.fits
          rw [if_neg (by rw [c]; exact Bool.false_ne_true)]
          exact this
      · rw [if_neg (by rw [c2]; exact Bool.false_ne_true)] at k
        have hfa2 := e12 _ _ hfa
        refine ⟨_, rfl, fa, rfl, ⟨_, .inl (.inl hfa2)⟩, fun D3 hD3 => ?_⟩
        refine lc_gen (walk_list (K := K) (a := fa) (xs := fvs)) hD3 (by omega) (fun H' e => .inl (.inl (e _ _ hfa2))) (fun i H x H' y => by rw [y.1]; exact Ex.refl _) (fun _ => true) (fun i y H => ∃ g : Fact, fs[i]? = some g ∧ y = V.bl (decide (resultByRow is C .newest g.1 = g.2))) (fun i y H H' e q => q) ?_ fun ys H3 e3 hy3 hp4 => ?_
        · intro i x H7 H8 Acc Nn hi e7 e8 y ka kn
          obtain ⟨rfl, hx⟩ := y
          obtain ⟨ff, hff, fp, rfl, hfp⟩ := Paired.at hfvs hx
          have gf := hg ff (List.mem_of_getElem? hff)
          have hfp := e7 _ _ (e12 _ _ hfp)
          refine ⟨fp, _, rfl, .inl (.inl hfp), rfl, _, _, rfl, _, _, rfl, rfl, rfl, tyes ?_⟩
          refine ⟨_, rfl, _, rfl, _, rfl, _, rfl, v, is, C, .newest, ff.1, rfl, (hv.mono e12).mono e7, hok, hC, short ff (List.mem_of_getElem? hff), fun H10 e10 => ?_⟩
          refine ⟨_, rfl, scal_opt _ _, ka rfl _ _ e10 ⟨ff, hff, ?_⟩⟩
          rw [dec_opt]
        have hys := bools_of (by rw [← hlf]; exact hp4)
        subst hys
        refine ⟨D3, _, rfl, .inl (.inl hy3), ?_⟩
        rw [all_map]
        exact k _ (e12.trans e3)
    · refine ifT (by cases m <;> first | decide +kernel | exact absurd rfl hm) ?_
      have k : ∀ H', Ex H H' → Q (.bl (fitsBy is f C m fs)) H' := fun H' e => by
        have := k H' e
        cases m
        · exact this
        · exact absurd rfl hm
        · exact this
      refine ⟨_, rfl, fa, rfl, ⟨_, .inl (.inl hfa1)⟩, fun D2 hD2 => ?_⟩
      refine lc_gen (walk_list (K := K) (a := fa) (xs := fvs)) hD2 (by omega) (fun H' e => .inl (.inl (e _ _ hfa1))) (fun i H x H' y => by rw [y.1]; exact Ex.refl _) (fun _ => true) (fun i y H => ∃ g : Fact, fs[i]? = some g ∧ y = V.bl (decide (resultByLength is f C m g.1 = g.2))) (fun i y H H' e q => q) ?_ fun ys H2 e2 hy2 hp3 => ?_
      · intro i x H7 H8 Acc Nn hi e7 e8 y ka kn
        obtain ⟨rfl, hx⟩ := y
        obtain ⟨ff, hff, fp, rfl, hfp⟩ := Paired.at hfvs hx
        have gf := hg ff (List.mem_of_getElem? hff)
        have hfp := e7 _ _ (e1 _ _ hfp)
        refine ⟨fp, _, rfl, .inl (.inl hfp), rfl, _, _, rfl, _, _, rfl, rfl, rfl, tyes ?_⟩
        refine ⟨_, rfl, _, rfl, _, rfl, _, rfl, _, rfl, v, w2, is, f, C, m, ff.1, rfl, (hv.mono e1).mono e7, (hw.mono e1).mono e7, hf, hok, hC.2, short ff (List.mem_of_getElem? hff), fun H10 e10 => ?_⟩
        refine ⟨_, rfl, scal_opt _ _, ka rfl _ _ e10 ⟨ff, hff, ?_⟩⟩
        rw [dec_opt]
      have hys := bools_of (by rw [← hlf]; exact hp3)
      subst hys
      refine ⟨D2, _, rfl, .inl (.inl hy2), ?_⟩
      rw [all_map]
      exact k _ (e1.trans e2)
theorem c_fits {B : Nat} (T : Tx K mg) (c_result_by_length : CalB B P w K mg base 4 "result_by_length" (sp_result_by_length K)) (c_result_by_row : C8.Cal P w K mg base 6 "result_by_row" sp_result_by_row []) : CalB B P w K mg base 8 "fits" (sp_fits K 2) := by
  have c0 : CalB B P w K mg base 6 "fits" (sp_fits K 0) := by
    obtain ⟨fd, F⟩ := T.d_fits
    refine calB_never F T.m_fits (F.bindsN (ps := ["items", "five", "capacity", "mode", "facts"]) fun _ _ _ _ _ _ us hl => match us, hl with | [_, _, _, _, _], _ => rfl) fits_scope fun vs H Q E h => ?_
    obtain ⟨_, _, _, _, _, _, _, _, _, h, _⟩ := h
    exact h rfl
  have c1 := c_fits_step (d := 0) (L := 6) (by omega) T c0 c_result_by_length c_result_by_row
  exact c_fits_step (d := 1) (L := 7) (by omega) T c1 c_result_by_length c_result_by_row
theorem fitting_capacities_scope : FnScope ["program", "mode", "facts", "items", "five", "capacity"] ["program", "mode", "facts"] (defScope s_fitting_capacities) := ⟨rfl, rfl, rfl, by decide +kernel, rfl, by decide +kernel, by decide +kernel⟩
theorem c_fitting_capacities {B : Nat} (T : Tx K mg) (c_check_facts : C8.Cal P w K mg base 6 "check_facts" sp_check_facts []) (c_check_mode : C8.Cal P w K mg base 2 "check_mode" sp_check_mode []) (c_fits : CalB B P w K mg base 8 "fits" (sp_fits K 2)) (c_five_of : C8.Cal P w K mg base 4 "five_of" (sp_five_of K 2) []) (c_items_of : C8.Cal P w K mg base 3 "items_of" sp_items_of []) : CalB B P w K mg base 9 "fitting_capacities" sp_fitting_capacities := by
  obtain ⟨fd, F⟩ := T.d_fitting_capacities
  refine calB_of F T.m_fitting_capacities (F.bindsN (ps := ["program", "mode", "facts"]) fun _ _ _ _ _ _ us hl => match us, hl with | [_, _, _], _ => rfl) fitting_capacities_scope (fun vs H Q E h => ?_) (fun cdv A outer s H vs Q E hr h => ?_)
  · obtain ⟨p, m, u, fs, rfl, _⟩ := h
    rfl
  · have sc := fitting_capacities_scope
    obtain ⟨p, m, u, fs, rfl, ok, hf, hu, hg, hlen, k⟩ := h
    refine ⟨_, (ssb_cons (Sb.of (ps_set (i := 3) sc.nd rfl (Or.inr rfl) (C8.pe_c c_items_of hr (by decide) rfl (pa_cons (pv 0) pa_nil))))
    (ssb_cons (Sb.of (ps_expr (C8.pe_c c_check_mode hr (by decide) rfl (pa_cons (pv 1) pa_nil))))
    (ssb_cons (Sb.of (ps_expr (C8.pe_c c_check_facts hr (by decide) rfl (pa_cons (pv 2) pa_nil))))
    (ssb_cons (Sb.of (ps_set (i := 4) sc.nd rfl (Or.inr rfl) (C8.pe_c c_five_of hr (by decide) rfl (pa_cons (pv 3) pa_nil))))
    (ssb_one (sb_ret (eb_lc (own := [("capacity", 5)]) (g := gName 5) rfl sc.nd (pi_range2 (by rfl) T.range_ (pa_cons pe_int (pa_cons (pe_op op_add (C8.pe_gc rfl T.g_MOST) pe_int) pa_nil))) (blkOk_by (N := ["program", "mode", "facts", "items", "five", "capacity"]) (sc := defScope s_fitting_capacities) (by decide +kernel)) (fun _ _ _ _ _ => (pg_name (i := 5) sc.nd rfl (Or.inl rfl))) (fun _ _ _ _ _ => (tsb_one (tb_val (eb_c c_fits hr (by decide) rfl (pa_cons (pv 3) (pa_cons (pv 4) (pa_cons (pv 5) (pa_cons (pv 1) (pa_cons (pv 2) pa_nil))))))))) (fun _ _ _ _ _ => (Eb.of (pv 5)))))))))), ?_⟩
    refine ⟨_, rfl, p, rfl, ok, fun v1 H1 e1 q1 => ?_⟩
    refine ⟨_, rfl, m, rfl, fun H2 e2 => ?_⟩
    refine ⟨_, rfl, u, fs, rfl, hu.mono (e1.trans e2), hg, hlen, fun H3 e3 => ?_⟩
    refine ⟨_, rfl, v1, p.its, rfl, q1.mono (e2.trans e3), trivial, its_ok ok, fun v4 H4 e4 q4 => ?_⟩
    have e14 := ((e1.trans e2).trans e3).trans e4
    have q14 := q1.mono ((e2.trans e3).trans e4)
    have hu4 := hu.mono e14
    refine ⟨_, _, rfl, rfl, _, _, rfl, ⟨by decide, by decide, by decide, by decide⟩, fun D hD => ?_⟩
    refine lc_gen (walk_range (lo := 1) (n := 100)) hD (by decide) (fun H' e => trivial) (fun i H x H' y => by rw [y.1]; exact Ex.refl _) (fun i => Fq.fits p.its (fiveOf p.its) (i + 1) m fs) (fun i y H => y = .int ((i + 1 : Nat) : Int)) (fun i y H H' e q => q) ?_ fun ys H5 e5 hy hp2 => ?_
    · intro i x H7 H8 Acc Nn hi e7 e8 y ka kn
      obtain ⟨rfl, rfl⟩ := y
      have ei : (1 + (i : Int)) = ((i + 1 : Nat) : Int) := by omega
      refine ⟨rfl, ?_⟩
      refine ⟨_, rfl, _, rfl, _, rfl, _, rfl, _, rfl, v1, v4, u, p.its, fiveOf p.its, i + 1, m, fs, ?_, fun h => (nomatch h), fun h => (nomatch h), q14.mono e7, q4.mono e7, hu4.mono e7, hf, its_ok ok, hg, hlen, ⟨by omega, by omega⟩, fun H9 e9 => ?_⟩
      · show [v1, v4, V.int (1 + (i : Int)), V.str m.s, u] ++ [] = _
        rw [ei]
        rfl
      refine ⟨_, rfl, ?_⟩
      cases hk : Fq.fits p.its (fiveOf p.its) (i + 1) m fs with
      | true => exact ifT rfl ⟨_, rfl, ka hk _ _ e9 (by show V.int (1 + (i : Int)) = _; rw [ei])⟩
      | false => exact ifF rfl (kn hk _ e9)
    · refine k D H5 (e14.trans e5) ?_
      rw [hy]
      refine congrArg (fun z => some (HO.lst z)) ?_
      rw [← paired_map hp2]
      unfold fitting
      rw [List.filter_map, List.map_map]
      rfl
end
end Fq

set_option Elab.async false
set_option linter.all false
set_option maxRecDepth 100000
set_option maxHeartbeats 4000000
namespace Fq
open PySem PySem.Spec PyProof.Rows L2
open Evl (Ex Ex.refl Ex.trans Ex.new Ex.mut fresh_back ex_l ex_t sq_of st_of)
section
variable {P : Program} {w : World} {K : PySem.W.Frag} {mg : Str → Option Value} {base : Heap}
theorem lt9 {n : Nat} (h : n + 64 < cLine) : n + 9 < cLine := by omega
theorem largest_group_scope : FnScope ["rows", "sizes", "row"] ["rows"] (defScope s_largest_group) := ⟨rfl, rfl, rfl, by decide +kernel, rfl, by decide +kernel, by decide +kernel⟩
theorem c_largest_group (T : Tx K mg) : C8.Cal P w K mg base 1 "largest_group" sp_largest_group [] := by
  obtain ⟨fd, F⟩ := T.d_largest_group
  refine cal_of F T.m_largest_group (binds_nil (ps := ["rows"]) F fun _ _ _ _ _ _ us hl => match us, hl with | [_], _ => rfl) largest_group_scope (fun vs H Q E h => ?_) (fun cdv A outer s H vs Q E hr h => ?_)
  · obtain ⟨v, a, x, y, r, q, rfl, _⟩ := h
    rfl
  · have sc := largest_group_scope
    obtain ⟨v, a, x, y, r, q, rfl, ha, rx, ry, sr, sq, k⟩ := h
    refine ⟨_, (pss_cons (ps_set (i := 1) sc.nd rfl (Or.inr rfl) pe_rnew)
      (pss_cons (ps_for PassesOwn.never rfl (pi_list (pv 0)) (pg_name (i := 2) sc.nd rfl (Or.inl rfl)) (pss_one (ps_rput (lt9 hr.units) (pv 1) (pv 2) (pe_op op_add (pe_rget2 (lt9 hr.units) (pv 1) (pv 2) pe_int ⟨rfl, rfl, rfl, rfl⟩) pe_int) (by rfl))))
      (pss_one (ps_ret (pe_callB (cr_max rfl) (by rfl) T.max_ (by decide +kernel) (pa_cons (pe_lock (pe_lc (own := [("row", 2)]) (g := gName 2) (tt := tYes) (te := tRGet P w (tVar 1) (tVar 2)) (wi := iRow P w (tVar 1)) rfl sc.nd (pi_row (pv 1)) (blkOk_by (N := ["rows", "sizes", "row"]) (sc := defScope s_largest_group) (by decide +kernel)) (fun _ _ _ _ _ => (pg_name (i := 2) sc.nd rfl (Or.inl rfl))) (fun _ _ _ _ _ => pts_nil) (fun _ _ _ _ _ => pe_rget (lt9 hr.units) (pv 1) (pv 2) (fun _ _ => rfl)))) pa_nil)))))), ?_⟩
    refine fun d hd => ?_
    dsimp only
    refine tset_n ?_
    refine tfor (walk_list (K := K) (a := a) (xs := [x, y])) (fun R r => ⟨_, rfl, a, rfl, ⟨_, .inl (.inl (Ex.new hd _ _ ha))⟩, r⟩)
      (fun i σ H' => ∃ (o : Option V) (xs : List (Row × V × Int)), σ = [some (.ref a), some (.ref d), o] ∧ Ex H H' ∧ DR P w H' d xs ∧ H' d = some (RowD P w d xs) ∧ (i = 0 → xs = []) ∧ (i = 1 → xs = [(r, x, 1)]) ∧ (i = 2 → xs = if r = q then [(r, x, 2)] else [(r, x, 1), (q, y, 1)]))
      ⟨none, [], rfl, Ex.new hd, ⟨.inl upd_same, fun x hx => (nomatch hx), List.nodup_nil, by decide⟩, upd_same, fun _ => rfl, fun z => absurd z (by decide), fun z => absurd z (by decide)⟩ ?_ ?_ ?_
    · rintro i σ H' hi ⟨o, xs, rfl, e, _⟩
      exact .inl (.inl (e _ _ ha))
    · rintro i z σ H1 H2 hi ⟨o, xs, rfl, e, g, gw, t0, t1, t2⟩ ⟨rfl, hz⟩
      match i, hz with
      | 0, hz =>
        have ez : z = x := (Option.some.inj hz).symm
        subst ez
        have ex := t0 rfl
        subst ex
        have rz := rx.mono e
        refine ⟨_, rfl, d, rfl, ⟨[], g⟩, _, rfl, [], r, g, rz, sr, 0, 1, rfl, rfl, ?_⟩
        refine ⟨_, rfl, _, rfl, d, [], r, 1, rfl, rfl, g, gw, rz, sr, (show 0 < 1000 by decide), ?_⟩
        exact ⟨_, _, rfl, Ex.mut e hd, dr_put g gw rz sr (show 0 < 1000 by decide), upd_same, fun z => absurd z (by decide), fun _ => rfl, fun z => absurd z (by decide)⟩
      | 1, hz =>
        have ez : z = y := (Option.some.inj hz).symm
        subst ez
        have ex := t1 rfl
        subst ex
        have rz := ry.mono e
        by_cases hrq : r = q
        · have ec : countAt [(r, x, 1)] q = some 1 := by unfold countAt; rw [List.find?_cons, decide_eq_true hrq]; rfl
          refine ⟨_, rfl, d, rfl, ⟨_, g⟩, _, rfl, _, q, g, rz, sq, 1, 1, by rw [ec], rfl, ?_⟩
          refine ⟨_, rfl, _, rfl, d, _, q, 2, rfl, rfl, g, gw, rz, sq, (show 1 < 1000 by decide), ?_⟩
          refine ⟨_, _, rfl, Ex.mut e hd, dr_put g gw rz sq (show 1 < 1000 by decide), upd_same, fun z => absurd z (by decide), fun z => absurd z (by decide), fun _ => ?_⟩
          unfold putR
          rw [ec, if_pos hrq, if_pos (show (some (1 : Int)).isSome = true from rfl), List.map_cons, if_pos hrq]
          rfl
        · have ec : countAt [(r, x, 1)] q = none := by unfold countAt; rw [List.find?_cons, decide_eq_false hrq]; rfl
          refine ⟨_, rfl, d, rfl, ⟨_, g⟩, _, rfl, _, q, g, rz, sq, 0, 1, by rw [ec], rfl, ?_⟩
          refine ⟨_, rfl, _, rfl, d, _, q, 1, rfl, rfl, g, gw, rz, sq, (show 1 < 1000 by decide), ?_⟩
          refine ⟨_, _, rfl, Ex.mut e hd, dr_put g gw rz sq (show 1 < 1000 by decide), upd_same, fun z => absurd z (by decide), fun z => absurd z (by decide), fun _ => ?_⟩
          unfold putR
          rw [ec, if_neg hrq, if_neg (show ¬ (none : Option Int).isSome = true by decide)]
          rfl
    · rintro σ H1 ⟨o, xs, rfl, e, g, gw, t0, t1, t2⟩
      have et := t2 rfl
      have hl2 : xs.length ≤ 2 := by rw [et]; split <;> simp
      have nd := g.nodup
      refine ⟨d, _, gw, trivial, fun od => ?_⟩
      have e' : Ex H (upd H1 d (.frz od (RowD P w d xs))) := Ex.mut e hd
      have keysU : ∀ {H' : Hp}, Ex (upd H1 d (.frz od (RowD P w d xs))) H' → DR P w H' d xs := fun {H'} e2 => ⟨.inr ⟨od, e2 _ _ upd_same⟩, fun p hp => ⟨?_, (g.keys p hp).2⟩, nd, g.len⟩
      · refine ⟨_, rfl, d, od, xs, rfl, upd_same, fun D hD => ?_⟩
        refine lc_gen (walk_row (P := P) (w := w) (d := d) (o := od) (xs := xs)) hD (by omega) (fun H' e => e _ _ upd_same) (fun i H x H' y => by rw [y.1]; exact Ex.refl _) (fun _ => true)
          (fun i y H => ∃ p, xs[i]? = some p ∧ y = .int p.2.2) (fun i y H H' e q => q) ?_ fun ys H' e2 hy hp2 => ?_
        · intro i z H3 H4 Acc Nn hi e3 e4 y2 ka kn
          obtain ⟨rfl, p, hp, rfl⟩ := y2
          refine ⟨rfl, tyes ?_⟩
          have g3 := keysU e3
          have hm := List.mem_of_getElem? hp
          exact ⟨_, rfl, _, rfl, d, xs, p.1, p.2.2, rfl, g3, (g3.keys p hm).1, (g3.keys p hm).2, count_nodup nd p hm, ka rfl _ _ (Ex.refl _) ⟨p, hp, rfl⟩⟩
        · have hDd : D ≠ d := fun z => by rw [z, upd_same] at hD; cases hD
          refine ⟨e2 _ _ upd_same, D, xs.map (·.2.2), rfl, .inl (.inl ?_), ?_, fun m hm hle => ?_⟩
          · rw [upd_ne hDd, hy]
            refine congrArg (fun z => some (HO.lst z)) ?_
            rw [filt_all] at hp2
            apply List.ext_getElem?
            intro j
            rw [List.map_map, List.getElem?_map]
            by_cases hj : j < xs.length
            · have e1 : (List.range xs.length)[j]? = some j := List.getElem?_range hj
              obtain ⟨y1, h1, p, hp, h2⟩ := paired_get hp2 e1
              rw [h1, hp, h2]
              rfl
            · rw [List.getElem?_eq_none (by omega : xs.length ≤ j), List.getElem?_eq_none (by rw [← Paired.len hp2, List.length_range]; omega)]
              rfl
          · rw [et]; split <;> simp
          · have em : m = if r = q then 2 else 1 := by
              rw [et] at hm
              by_cases hrq : r = q
              · rw [if_pos hrq] at hm ⊢
                simpa using hm
              · rw [if_neg hrq] at hm ⊢
                simpa using hm
            subst em
            exact k _ (Ex.mut (e'.trans e2) hd)
      · have q1 := (g.keys p hp).1
        obtain ⟨p1, p2, p3⟩ := p
        cases p1 with
        | none => exact q1
        | some p1 =>
          obtain ⟨b, eb, hb⟩ := q1
          exact ⟨b, eb, e2 _ _ (by rw [upd_ne (ne_of hb gw fun z => nomatch z)]; exact hb)⟩
end
end Fq

set_option Elab.async false
set_option linter.all false
/-! The rows, on queues: a table of rows is the run of the steps that a program stands for. -/
namespace Fq
/-- one step on a queue -/
def qStep (C : Nat) (m : Mode) (q : Option (List Nat)) (s : Nat) : Option (List Nat) := match q with
  | none => none
  | some q => if s = 45 then (if q.length = 0 then none else some (q.drop 1))
    else if q.length < C then some (q ++ [s])
    else match m with
      | .oldest => some (q.drop 1 ++ [s])
      | .newest => some q
      | .strict => none
def runQ (C : Nat) (m : Mode) (q : Option (List Nat)) (u : List Nat) : Option (List Nat) := u.foldl (qStep C m) q
theorem runQ_none (C : Nat) (m : Mode) : ∀ u : List Nat, runQ C m none u = none
  | [] => rfl
  | _ :: u => runQ_none C m u
theorem runQ_append (C : Nat) (m : Mode) (q : Option (List Nat)) (u v : List Nat) : runQ C m q (u ++ v) = runQ C m (runQ C m q u) v := List.foldl_append
theorem drop_drop1 {q : List Nat} {k : Nat} (h0 : 0 < k) (h : k ≤ q.length) (w : List Nat) : (q.drop (q.length - k) ++ w).drop 1 = q.drop (q.length - (k - 1)) ++ w := by
  have e : 1 ≤ (q.drop (q.length - k)).length := by rw [List.length_drop]; omega
  rw [List.drop_append_of_le_length e, List.drop_drop]
  congr 2
  omega
theorem len_apply {q w : List Nat} {k : Nat} (h : k ≤ q.length) : (q.drop (q.length - k) ++ w).length = k + w.length := by
  rw [List.length_append, List.length_drop]; omega
/-- a row's step is the queue's step -/
theorem apply_after {C : Nat} {m : Mode} {q : List Nat} {r : Row} (h : ∀ k w, r = some (k, w) → k ≤ q.length) (s : Nat) (hC : 1 ≤ C) (ho : ∀ k w, r = some (k, w) → k + w.length ≤ C) : applyRow (rowAfter r s C m) q = qStep C m (applyRow r q) s := by
  cases r with
  | none => rfl
  | some r =>
    obtain ⟨k, w⟩ := r
    have hk := h k w rfl
    have hl := len_apply (w := w) hk
    unfold applyRow qStep rowAfter
    dsimp only
    rw [hl]
    by_cases hs : s = 45
    · rw [if_pos hs, if_pos hs]
      by_cases h0 : k + w.length = 0
      · rw [if_pos h0, if_pos h0]
      · rw [if_neg h0, if_neg h0]
        by_cases hk0 : k > 0
        · rw [if_pos hk0]
          dsimp only
          rw [drop_drop1 hk0 hk]
        · rw [if_neg hk0]
          have e : k = 0 := by omega
          subst e
          dsimp only
          rw [Nat.sub_zero, List.drop_length, List.nil_append, List.nil_append]
    · rw [if_neg hs, if_neg hs]
      by_cases hlt : k + w.length < C
      · rw [if_pos hlt, if_pos hlt]
        dsimp only
        rw [List.append_assoc]
      · rw [if_neg hlt, if_neg hlt]
        cases m with
        | oldest =>
          dsimp only
          by_cases hk0 : k > 0
          · rw [if_pos hk0, drop_drop1 hk0 hk]
            dsimp only
            rw [List.append_assoc]
          · rw [if_neg hk0]
            have e : k = 0 := by omega
            subst e
            dsimp only
            rw [Nat.sub_zero, List.drop_length, List.nil_append, List.nil_append]
        | newest => rfl
        | strict => rfl
theorem drop_far {D w : List Nat} {k k2 : Nat} (h : D.length = k) (c : k2 ≤ w.length) : (D ++ w).drop (k + w.length - k2) = w.drop (w.length - k2) := by
  have e : k + w.length - k2 = D.length + (w.length - k2) := by omega
  rw [e, ← List.drop_drop, List.drop_left]
/-- rows joined are one behind the other -/
theorem apply_joined {q : List Nat} {r : Row} {rows : List Row} (h : ∀ k w, r = some (k, w) → k ≤ q.length) (hr : ∀ k2 w2 n, rows.getD n none = some (k2, w2) → k2 ≤ n) : applyRow (joinedRow r rows) q = (applyRow r q).bind (resultOf rows) := by
  cases r with
  | none => rfl
  | some r =>
    obtain ⟨k, w⟩ := r
    have hk := h k w rfl
    have hl := len_apply (w := w) hk
    unfold applyRow joinedRow resultOf
    dsimp only [Option.bind]
    rw [hl]
    cases e : rows.getD (k + w.length) none with
    | none => rfl
    | some r2 =>
      obtain ⟨k2, w2⟩ := r2
      have h2 := hr _ _ _ e
      unfold applyRow
      dsimp only
      rw [hl]
      by_cases c : k2 ≤ w.length
      · rw [if_pos c]
        dsimp only
        rw [Nat.sub_zero, List.drop_length, List.nil_append]
        exact (congrArg (fun z => some (z ++ w2)) (drop_far (by rw [List.length_drop]; omega) c)).symm
      · rw [if_neg c]
        dsimp only
        have e1 : (q.drop (q.length - k)).length = k := by rw [List.length_drop]; omega
        rw [List.drop_append_of_le_length (by rw [e1]; omega), List.drop_drop, List.append_assoc]
        congr 3
        omega
/-- the rows are the run of u -/
structure Runs (C : Nat) (m : Mode) (rows : List Row) (u : List Nat) : Prop where
  good : GoodRows C rows
  res : ∀ q, q.length ≤ C → resultOf rows q = runQ C m (some q) u
theorem GoodRows.kept {C : Nat} {rows : List Row} (h : GoodRows C rows) : ∀ k2 w2 n, rows.getD n none = some (k2, w2) → k2 ≤ n := fun k2 w2 n e => by
  rw [List.getD_eq_getElem?_getD] at e
  cases z : rows[n]? with
  | none => rw [z] at e; cases e
  | some r =>
    rw [z] at e
    exact (h.ok n r z k2 w2 e).1
theorem GoodRows.tot {C : Nat} {rows : List Row} (h : GoodRows C rows) : ∀ k2 w2 n, rows.getD n none = some (k2, w2) → k2 + w2.length ≤ C := fun k2 w2 n e => by
  rw [List.getD_eq_getElem?_getD] at e
  cases z : rows[n]? with
  | none => rw [z] at e; cases e
  | some r =>
    rw [z] at e
    exact (h.ok n r z k2 w2 e).2.1
theorem GoodRows.short {C : Nat} {rows : List Row} (h : GoodRows C rows) {q v : List Nat} (e : resultOf rows q = some v) : v.length ≤ C := by
  unfold resultOf applyRow at e
  cases z : rows.getD q.length none with
  | none => rw [z] at e; cases e
  | some r =>
    obtain ⟨k, w⟩ := r
    rw [z] at e
    have h1 := h.kept _ _ _ z
    have h2 := h.tot _ _ _ z
    cases e
    rw [len_apply h1]
    exact h2
theorem getD_map {rows : List Row} {f : Row → Row} (hf : f none = none) (n : Nat) : (rows.map f).getD n none = f (rows.getD n none) := by
  rw [List.getD_eq_getElem?_getD, List.getD_eq_getElem?_getD, List.getElem?_map]
  cases rows[n]? with
  | none => exact hf.symm
  | some r => rfl
theorem runs_identity (C : Nat) (m : Mode) : Runs C m (identityRows C) [] where
  good := goodRows_identity C
  res := fun q hq => by
    unfold resultOf identityRows
    rw [List.getD_eq_getElem?_getD, List.getElem?_map, List.getElem?_range (by omega)]
    show some (q.drop (q.length - q.length) ++ []) = some q
    rw [Nat.sub_self, List.drop_zero, List.append_nil]
theorem runs_step {C : Nat} {m : Mode} {rows : List Row} {u : List Nat} {c : Nat} (hC : 1 ≤ C) (hs : Step c) (h : Runs C m rows u) : Runs C m (stepRows C m rows c) (u ++ [c]) where
  good := goodRows_step h.good hs hC
  res := fun q hq => by
    rw [runQ_append, ← h.res q hq]
    unfold resultOf stepRows
    rw [getD_map rfl]
    exact apply_after (fun k w e => h.good.kept _ _ _ e) c hC fun k w e => h.good.tot _ _ _ e
theorem runs_steps {C : Nat} {m : Mode} (hC : 1 ≤ C) : ∀ (s : List Nat) {rows : List Row} {u : List Nat}, (∀ c ∈ s, Step c) → Runs C m rows u → Runs C m (s.foldl (stepRows C m) rows) (u ++ s)
  | [], _, u, _, h => by rw [List.append_nil]; exact h
  | c :: s, _, u, hs, h => by
    have := runs_steps hC s (fun x hx => hs x (List.mem_cons_of_mem _ hx)) (runs_step hC (hs c List.mem_cons_self) h)
    rw [List.append_assoc] at this
    exact this
theorem runs_joined {C : Nat} {m : Mode} {a b : List Row} {u v : List Nat} (ha : Runs C m a u) (hb : Runs C m b v) : Runs C m (joinedRows a b) (u ++ v) where
  good := goodRows_joined ha.good hb.good
  res := fun q hq => by
    rw [runQ_append, ← ha.res q hq]
    unfold resultOf joinedRows
    rw [getD_map rfl, apply_joined (fun k w e => ha.good.kept _ _ _ e) hb.good.kept]
    cases e : applyRow (a.getD q.length none) q with
    | none => exact (runQ_none C m v).symm
    | some q2 => exact hb.res q2 (ha.good.short (q := q) e)
theorem times_zero (l : List Nat) : times 0 l = [] := rfl
theorem times_succ (n : Nat) (l : List Nat) : times (n + 1) l = l ++ times n l := by
  unfold times
  rw [List.replicate_succ, List.flatten_cons]
theorem times_add (a b : Nat) (l : List Nat) : times (a + b) l = times a l ++ times b l := by
  unfold times
  rw [← List.replicate_append_replicate, List.flatten_append]
theorem times_two (n : Nat) (l : List Nat) : times n (l ++ l) = times (2 * n) l := by
  induction n with
  | zero => rfl
  | succ n ih => rw [times_succ, ih, show 2 * (n + 1) = 1 + (1 + 2 * n) by omega, times_add, times_add, ← List.append_assoc]; simp [times]
theorem runs_loop {C : Nat} {m : Mode} (n : Nat) : ∀ {a b : List Row} {u v : List Nat}, Runs C m a u → Runs C m b v → Runs C m (powerLoop a b n) (u ++ times n v) := by
  induction n using Nat.strongRecOn with
  | _ n ih =>
    intro a b u v ha hb
    rw [powerLoop]
    by_cases h0 : n = 0
    · rw [if_pos h0, h0, times_zero, List.append_nil]
      exact ha
    · rw [if_neg h0]
      have e : times n v = times (n % 2) v ++ times (n / 2) (v ++ v) := by
        rw [times_two, ← times_add]
        congr 1
        omega
      have key := @ih (n / 2) (by omega)
      by_cases h1 : n % 2 = 1
      · rw [if_pos h1, e, h1, ← List.append_assoc]
        have e1 : times 1 v = v := by simp [times]
        rw [e1]
        exact key (runs_joined ha hb) (runs_joined hb hb)
      · have h1' : n % 2 = 0 := by omega
        rw [if_neg h1, e, h1', times_zero, List.nil_append]
        exact key ha (runs_joined hb hb)
theorem runs_power {C : Nat} {m : Mode} {rows : List Row} {v : List Nat} (h : Runs C m rows v) (n : Nat) : Runs C m (powerRows rows n) (times n v) := by
  unfold powerRows
  rw [h.good.len, Nat.add_sub_cancel]
  exact runs_loop n (runs_identity C m) h
/-- the steps that a program stands for -/
def expItem : Pc → List Nat
  | .t s => s
  | .r b n => times n b.flatten
def expand (is : List Pc) : List Nat := is.flatMap expItem
theorem runs_flat {C : Nat} {m : Mode} (hC : 1 ≤ C) (b : List (List Nat)) (hb : ∀ s ∈ b, ∀ c ∈ s, Step c) : Runs C m (rowsFlat b C m) b.flatten := by
  have key : ∀ (b : List (List Nat)) {rows : List Row} {u : List Nat}, (∀ s ∈ b, ∀ c ∈ s, Step c) → Runs C m rows u → Runs C m (b.foldl (fun rows s => s.foldl (stepRows C m) rows) rows) (u ++ b.flatten) := by
    intro b
    induction b with
    | nil => intro rows u _ h; rw [List.flatten_nil, List.append_nil]; exact h
    | cons s b ih =>
      intro rows u hb h
      rw [List.flatten_cons, ← List.append_assoc]
      exact ih (fun x hx => hb x (List.mem_cons_of_mem _ hx)) (runs_steps hC s (hb s List.mem_cons_self) h)
  exact key b hb (runs_identity C m)
theorem runs_of {C : Nat} {m : Mode} (hC : 1 ≤ C) {is : List Pc} (h : ItsOk is) : Runs C m (rowsOf is C m) (expand is) := by
  unfold rowsOf
  have key : ∀ (is : List Pc) {rows : List Row} {u : List Nat}, (∀ i ∈ is, i.Ok) → Runs C m rows u → Runs C m (is.foldl (rowsItem C m) rows) (u ++ expand is) := by
    intro is
    induction is with
    | nil => intro rows u _ h; rw [show expand [] = [] from rfl, List.append_nil]; exact h
    | cons i is ih =>
      intro rows u hb h
      have e : expand (i :: is) = expItem i ++ expand is := List.flatMap_cons
      rw [e, ← List.append_assoc]
      refine ih (fun x hx => hb x (List.mem_cons_of_mem _ hx)) ?_
      have hi := hb i List.mem_cons_self
      cases i with
      | t s => exact runs_steps hC s hi.2 h
      | r b n => exact runs_joined h (runs_power (runs_flat hC b fun s hs => (hi.2.1 s hs).2) n)
  have := key is h.ok (runs_identity C m)
  rwa [List.nil_append] at this
end Fq

set_option Elab.async false
set_option linter.all false
/-! Profiles and last letters, by the steps a program stands for. -/
namespace Fq
def prof (u : List Nat) : Five := u.foldl fiveStep nothing
theorem five_ext {a b : Five} (h1 : a.1 = b.1) (h2 : a.2.1 = b.2.1) (h3 : a.2.2.1 = b.2.2.1) (h4 : a.2.2.2.1 = b.2.2.2.1) (h5 : a.2.2.2.2 = b.2.2.2.2) : a = b := by
  obtain ⟨a1, a2, a3, a4, a5⟩ := a
  obtain ⟨b1, b2, b3, b4, b5⟩ := b
  dsimp only at *
  subst h1 h2 h3 h4 h5
  rfl
theorem joined_assoc (a b c : Five) : joined (joined a b) c = joined a (joined b c) := by
  refine five_ext ?_ ?_ ?_ ?_ ?_ <;> (unfold joined; dsimp only; omega)
structure PfOk (f : Five) : Prop where
  takes : 0 ≤ f.2.1
  low : f.2.2.1 ≤ 0
  lowo : f.2.2.1 ≤ f.1 - f.2.1
  high : 0 ≤ f.2.2.2.1
  higho : f.1 - f.2.1 ≤ f.2.2.2.1
  fall : f.2.2.2.1 - (f.1 - f.2.1) ≤ f.2.2.2.2
  fall0 : 0 ≤ f.2.2.2.2
  falll : - f.2.2.1 ≤ f.2.2.2.2
  fallh : f.2.2.2.2 ≤ f.2.2.2.1 - f.2.2.1
theorem pf_nothing : PfOk nothing := ⟨by decide, by decide, by decide, by decide, by decide, by decide, by decide, by decide, by decide⟩
theorem fs_take (f : Five) : fiveStep f 45 = (f.1, f.2.1 + 1, min f.2.2.1 (f.1 - f.2.1 - 1), max f.2.2.2.1 (f.1 - f.2.1), max (max f.2.2.2.2 1) (f.2.2.2.1 - (f.1 - f.2.1) + 1)) := by
  unfold fiveStep oneFive
  rw [if_pos rfl]
  refine five_ext ?_ ?_ ?_ ?_ ?_ <;> (unfold joined; dsimp only; try omega)
theorem fs_put {f : Five} {c : Nat} (h : c ≠ 45) : fiveStep f c = (f.1 + 1, f.2.1, min f.2.2.1 (f.1 - f.2.1), max f.2.2.2.1 (f.1 - f.2.1 + 1), max (max f.2.2.2.2 0) (f.2.2.2.1 - (f.1 - f.2.1))) := by
  unfold fiveStep oneFive
  rw [if_neg h]
  refine five_ext ?_ ?_ ?_ ?_ ?_ <;> (unfold joined; dsimp only; try omega)
theorem pf_step {f : Five} (h : PfOk f) (c : Nat) : PfOk (fiveStep f c) := by
  obtain ⟨h1, h2, h3, h4, h5, h6, h7, h8, h9⟩ := h
  by_cases e : c = 45
  · subst e
    rw [fs_take]
    refine ⟨?_, ?_, ?_, ?_, ?_, ?_, ?_, ?_, ?_⟩ <;> (dsimp only; omega)
  · rw [fs_put e]
    refine ⟨?_, ?_, ?_, ?_, ?_, ?_, ?_, ?_, ?_⟩ <;> (dsimp only; omega)
theorem pf_steps : ∀ (u : List Nat) {f : Five}, PfOk f → PfOk (u.foldl fiveStep f)
  | [], _, h => h
  | c :: u, _, h => pf_steps u (pf_step h c)
theorem pf_prof (u : List Nat) : PfOk (prof u) := pf_steps u pf_nothing
theorem joined_steps (x : Five) : ∀ (v : List Nat) (g : Five), joined x (v.foldl fiveStep g) = v.foldl fiveStep (joined x g)
  | [], _ => rfl
  | c :: v, g => by
    rw [List.foldl_cons, List.foldl_cons, joined_steps x v]
    congr 1
    unfold fiveStep
    rw [joined_assoc]
theorem joined_nothing {f : Five} (h : PfOk f) : joined f nothing = f := by
  obtain ⟨h1, h2, h3, h4, h5, h6, h7, h8, h9⟩ := h
  refine five_ext ?_ ?_ ?_ ?_ ?_ <;> (unfold joined nothing; dsimp only; omega)
theorem prof_append (u v : List Nat) : joined (prof u) (prof v) = prof (u ++ v) := by
  have e : joined (prof u) (prof v) = v.foldl fiveStep (joined (prof u) nothing) := joined_steps _ v nothing
  rw [e, joined_nothing (pf_prof u)]
  unfold prof
  rw [List.foldl_append]
theorem prof_loop (n : Nat) : ∀ (u v : List Nat), repLoop (prof u) (prof v) n = prof (u ++ times n v) := by
  induction n using Nat.strongRecOn with
  | _ n ih =>
    intro u v
    rw [repLoop]
    by_cases h0 : n = 0
    · rw [if_pos h0, h0, times_zero, List.append_nil]
    · rw [if_neg h0]
      have e : times n v = times (n % 2) v ++ times (n / 2) (v ++ v) := by
        rw [times_two, ← times_add]
        congr 1
        omega
      rw [prof_append v v]
      by_cases h1 : n % 2 = 1
      · rw [if_pos h1, e, h1, ← List.append_assoc, prof_append, ih (n / 2) (by omega)]
        have e1 : times 1 v = v := by simp [times]
        rw [e1]
      · have h1' : n % 2 = 0 := by omega
        rw [if_neg h1, e, h1', times_zero, List.nil_append]
        exact ih (n / 2) (by omega) u (v ++ v)
theorem prof_flat (b : List (List Nat)) : fiveFlat b = prof b.flatten := by
  have key : ∀ (b : List (List Nat)) (f : Five), b.foldl (fun f s => s.foldl fiveStep f) f = b.flatten.foldl fiveStep f := by
    intro b
    induction b with
    | nil => intro f; rfl
    | cons s b ih => intro f; rw [List.foldl_cons, ih, List.flatten_cons, List.foldl_append]
  exact key b nothing
theorem prof_of (is : List Pc) : fiveOf is = prof (expand is) := by
  have key : ∀ (is : List Pc) (u : List Nat), is.foldl fiveItem (prof u) = prof (u ++ expand is) := by
    intro is
    induction is with
    | nil => intro u; rw [show expand [] = [] from rfl, List.append_nil]; rfl
    | cons i is ih =>
      intro u
      have e : expand (i :: is) = expItem i ++ expand is := List.flatMap_cons
      rw [e, ← List.append_assoc, ← ih, List.foldl_cons]
      congr 1
      cases i with
      | t s =>
        show s.foldl fiveStep (prof u) = prof (u ++ s)
        unfold prof
        rw [List.foldl_append]
      | r b n =>
        show joined (prof u) (repLoop nothing (fiveFlat b) n) = prof (u ++ times n b.flatten)
        rw [prof_flat, show repLoop nothing (prof b.flatten) n = prof ([] ++ times n b.flatten) from prof_loop n [] b.flatten, prof_append, List.nil_append]
  exact key is []
/-! ### the letters put -/
def lastN (k : Nat) (l : List Nat) : List Nat := l.drop (l.length - k)
theorem lastN_len (k : Nat) (l : List Nat) : (lastN k l).length = min k l.length := by
  unfold lastN
  rw [List.length_drop]; omega
theorem lastN_big {k : Nat} {l : List Nat} (h : l.length ≤ k) : lastN k l = l := by
  unfold lastN
  rw [show l.length - k = 0 by omega]; rfl
theorem lastN_left {k : Nat} {a b : List Nat} (h : k ≤ b.length) : lastN k (a ++ b) = lastN k b := by
  unfold lastN
  rw [List.length_append, show a.length + b.length - k = a.length + (b.length - k) by omega, ← List.drop_drop, List.drop_left]
theorem lastN_append (k : Nat) (a b : List Nat) : lastN k (a ++ b) = lastN (k - b.length) a ++ lastN k b := by
  by_cases h : k ≤ b.length
  · rw [lastN_left h, show k - b.length = 0 by omega]
    unfold lastN
    rw [Nat.sub_zero, List.drop_length, List.nil_append]
  · rw [lastN_big (l := b) (by omega)]
    unfold lastN
    rw [List.length_append, List.drop_append_of_le_length (by omega)]
    congr 2
    omega
theorem lastN_lastN {j k : Nat} (h : j ≤ k) (l : List Nat) : lastN j (lastN k l) = lastN j l := by
  unfold lastN
  rw [List.drop_drop, List.length_drop]
  congr 1
  omega
theorem puts_append (a b : List Nat) : putsOf (a ++ b) = putsOf a ++ putsOf b := List.filter_append _ _
theorem puts_flatten (b : List (List Nat)) : putsOf b.flatten = (b.map putsOf).flatten := by
  induction b with
  | nil => rfl
  | cons s b ih => rw [List.flatten_cons, puts_append, ih]; rfl
theorem puts_times (n : Nat) (l : List Nat) : putsOf (times n l) = times n (putsOf l) := by
  induction n with
  | zero => rfl
  | succ n ih => rw [times_succ, puts_append, ih, times_succ]
theorem times_len (n : Nat) (l : List Nat) : (times n l).length = n * l.length := by
  induction n with
  | zero => rw [times_zero, Nat.zero_mul]; rfl
  | succ n ih => rw [times_succ, List.length_append, ih, Nat.succ_mul]; omega
/-- what is found stays the last letters -/
theorem lastJoin_last {count : Nat} {F L X : List Nat} (h : lastN (count - F.length) X = lastN (count - F.length) L) (hF : F.length ≤ count) : lastJoin count F X = lastN count (L ++ F) := by
  rw [lastN_append, ← h, lastN_big (l := F) hF]
  rfl
theorem lastJoin_lastN {count : Nat} {F L X : List Nat} (h : lastN (count - (lastN count F).length) X = lastN (count - (lastN count F).length) L) : lastJoin count (lastN count F) X = lastN count (L ++ F) := by
  rw [lastJoin_last h (by rw [lastN_len]; omega), lastN_append, lastN_append count L F, lastN_lastN (Nat.le_refl _), lastN_len]
  congr 2
  omega
theorem lastFull {count : Nat} {F L : List Nat} (h : count - (lastN count F).length = 0) : lastN count F = lastN count (L ++ F) := by
  rw [lastN_len] at h
  exact (lastN_left (by omega)).symm
theorem lastFlat_eq (b : List (List Nat)) (count : Nat) : lastFlat b count = lastN count (putsOf b.flatten) := by
  unfold lastFlat
  have key : ∀ (l : List (List Nat)) (F : List Nat), l.foldl (fun found s => if count - found.length = 0 then found else lastJoin count found (putsOf s)) (lastN count F) = lastN count ((l.reverse.map putsOf).flatten ++ F) := by
    intro l
    induction l with
    | nil => intro F; rfl
    | cons s l ih =>
      intro F
      rw [List.foldl_cons, List.reverse_cons, List.map_append, List.flatten_append]
      have e : (if count - (lastN count F).length = 0 then lastN count F else lastJoin count (lastN count F) (putsOf s)) = lastN count (putsOf s ++ F) := by
        split
        · rename_i h; exact lastFull h
        · exact lastJoin_lastN rfl
      rw [e, ih]
      simp [List.append_assoc]
  have := key b.reverse []
  rw [show lastN count ([] : List Nat) = [] from List.drop_nil] at this
  rw [List.reverse_reverse, List.append_nil, ← puts_flatten] at this
  exact this
theorem lastRep_eq {X : List Nat} {n left : Nat} : lastN left (lastRep (lastN left X) n left) = lastN left (times n X) := by
  have hl := lastN_len left X
  unfold lastRep
  by_cases h : 0 < (lastN left X).length ∧ (lastN left X).length < left
  · rw [if_pos h]
    have hX : X.length < left := by omega
    have e : lastN left X = X := lastN_big (by omega)
    rw [e]
    have h0 : 0 < X.length := by omega
    by_cases hn : n ≤ left / X.length + 1
    · rw [Nat.min_eq_left hn]
    · rw [Nat.min_eq_right (by omega)]
      have e2 : times n X = times (n - (left / X.length + 1)) X ++ times (left / X.length + 1) X := by
        rw [← times_add]; congr 1; omega
      rw [e2]
      refine (lastN_left ?_).symm
      rw [times_len]
      have := Nat.div_add_mod left X.length
      have := Nat.mod_lt left h0
      rw [Nat.add_mul, Nat.mul_comm (left / X.length)]
      omega
  · rw [if_neg h]
    by_cases hn : n = 0
    · rw [if_pos hn, hn]; rfl
    · rw [if_neg hn]
      by_cases h0 : X.length = 0
      · have : X = [] := List.eq_nil_of_length_eq_zero h0
        subst this
        have e : times n ([] : List Nat) = [] := List.eq_nil_of_length_eq_zero (by rw [times_len]; simp)
        rw [e]
        simp [lastN]
      · have hge : left ≤ X.length := by omega
        have e2 : times n X = times (n - 1) X ++ X := by
          have : times n X = times (n - 1) X ++ times 1 X := by rw [← times_add]; congr 1; omega
          rw [this]; simp [times]
        rw [e2, lastN_left hge, lastN_lastN (Nat.le_refl _)]
theorem lastOf_eq (is : List Pc) (count : Nat) : lastOf is count = lastN count (putsOf (expand is)) := by
  unfold lastOf
  have key : ∀ (l : List Pc) (F : List Nat), l.foldl (lastItem count) (lastN count F) = lastN count (putsOf (expand l.reverse) ++ F) := by
    intro l
    induction l with
    | nil => intro F; rfl
    | cons i l ih =>
      intro F
      rw [List.foldl_cons, List.reverse_cons]
      have e1 : expand (l.reverse ++ [i]) = expand l.reverse ++ expItem i := by unfold expand; rw [List.flatMap_append]; simp
      have e : lastItem count (lastN count F) i = lastN count (putsOf (expItem i) ++ F) := by
        unfold lastItem
        split
        · rename_i h; exact lastFull h
        · cases i with
          | t s => exact lastJoin_lastN rfl
          | r b n =>
            refine lastJoin_lastN ?_
            rw [lastFlat_eq, lastRep_eq]
            show _ = lastN _ (putsOf (times n b.flatten))
            rw [puts_times]
      rw [e, ih, e1, puts_append, List.append_assoc]
  have := key is.reverse []
  rw [show lastN count ([] : List Nat) = [] from List.drop_nil] at this
  rw [List.reverse_reverse, List.append_nil] at this
  exact this
theorem prof_puts (u : List Nat) : (prof u).1 = ((putsOf u).length : Int) := by
  have key : ∀ (u : List Nat) (f : Five), (u.foldl fiveStep f).1 = f.1 + ((putsOf u).length : Int) := by
    intro u
    induction u with
    | nil => intro f; show f.1 = f.1 + (0 : Int); omega
    | cons c u ih =>
      intro f
      rw [List.foldl_cons, ih]
      by_cases e : c = 45
      · subst e
        rw [fs_take, show putsOf (45 :: u) = putsOf u from List.filter_cons_of_neg (by decide)]
      · rw [fs_put e, show putsOf (c :: u) = c :: putsOf u from List.filter_cons_of_pos (by simpa using e), List.length_cons]
        dsimp only
        omega
  have := key u nothing
  rw [show (nothing : Five).1 = 0 from rfl] at this
  unfold prof
  omega
theorem five_ok (is : List Pc) : FiveOk is (fiveOf is) := by
  have h := pf_prof (expand is)
  have e := prof_of is
  refine ⟨fun c => ?_, by rw [e]; exact h.takes, by rw [e]; exact h.low, by rw [e]; exact h.lowo, by rw [e]; exact h.high, by rw [e]; exact h.higho, by rw [e]; exact h.fall⟩
  rw [lastOf_eq, lastN_len, e, prof_puts]
  omega
end Fq

set_option Elab.async false
set_option linter.all false
/-! The closed forms: oldest, strict, and newest that loses nothing. -/
namespace Fq
def net (f : Five) : Int := f.1 - f.2.1
/-- what stands is the last of what was there and what was put -/
def Tail (q P z : List Nat) : Prop := z.length ≤ q.length + P.length ∧ z = lastN z.length (q ++ P)
theorem tail_start (q : List Nat) : Tail q [] q := ⟨by simp, by rw [List.append_nil]; exact (lastN_big (Nat.le_refl _)).symm⟩
theorem tail_take {q P z : List Nat} (h : Tail q P z) (h0 : z.length ≠ 0) : Tail q P (z.drop 1) := by
  obtain ⟨h1, h2⟩ := h
  refine ⟨by rw [List.length_drop]; omega, ?_⟩
  have e : (z.drop 1).length = z.length - 1 := List.length_drop
  rw [e]
  have e2 : z.drop 1 = (lastN z.length (q ++ P)).drop 1 := congrArg (List.drop 1) h2
  rw [e2]
  unfold lastN
  rw [List.drop_drop, List.length_append]
  congr 1
  omega
theorem tail_put {q P z : List Nat} (h : Tail q P z) (c : Nat) : Tail q (P ++ [c]) (z ++ [c]) := by
  obtain ⟨h1, h2⟩ := h
  refine ⟨by rw [List.length_append, List.length_append, List.length_singleton]; omega, ?_⟩
  rw [← List.append_assoc, lastN_append, List.length_append, List.length_singleton, Nat.add_sub_cancel, ← h2, lastN_big (by rw [List.length_singleton]; omega)]
theorem tail_full {q P z : List Nat} (h : Tail q P z) (h0 : z.length ≠ 0) (c : Nat) : Tail q (P ++ [c]) (z.drop 1 ++ [c]) := tail_put (tail_take h h0) c
theorem end_of (f : Five) (C n : Int) : endOf f C n = min (n + net f) (C + net f - f.2.2.2.1) := rfl
/-- how a run stands -/
structure Stands (ok : Five → Prop) (C : Nat) (q P : List Nat) (f : Five) (st : Option (List Nat)) : Prop where
  none_ : st = none → ¬ ok f
  some_ : ∀ z, st = some z → ok f ∧ (z.length : Int) = endOf f C q.length ∧ Tail q P z
def okOld (C n : Nat) (f : Five) : Prop := -f.2.2.1 ≤ (n : Int) ∧ f.2.2.2.2 ≤ (C : Int)
def okStr (C n : Nat) (f : Five) : Prop := -f.2.2.1 ≤ (n : Int) ∧ (n : Int) + f.2.2.2.1 ≤ (C : Int)
theorem puts_take (P : List Nat) : P ++ putsOf [45] = P := by
  rw [show putsOf [45] = [] from rfl, List.append_nil]
theorem puts_put {P : List Nat} {c : Nat} (h : c ≠ 45) : P ++ putsOf [c] = P ++ [c] := by
  rw [show putsOf [c] = [c] from List.filter_cons_of_pos (by simpa using h)]
theorem old_step {C : Nat} {q P : List Nat} {f : Five} {st : Option (List Nat)} (hC : 1 ≤ C) (hq : q.length ≤ C) (pf : PfOk f) (h : Stands (okOld C q.length) C q P f st) (c : Nat) : Stands (okOld C q.length) C q (P ++ putsOf [c]) (fiveStep f c) (qStep C .oldest st c) := by
  obtain ⟨h1, h2, h3, h4, h5, h6, h7, h8, h9⟩ := pf
  cases st with
  | none =>
    have n := h.none_ rfl
    refine ⟨fun _ => ?_, fun z e => nomatch (show (none : Option (List Nat)) = some z from e)⟩
    unfold okOld at n ⊢
    by_cases e : c = 45
    · subst e; rw [fs_take]; dsimp only; omega
    · rw [fs_put e]; dsimp only; omega
  | some z =>
    obtain ⟨ok, el, tl⟩ := h.some_ z rfl
    rw [end_of] at el
    unfold okOld at ok
    unfold net at el
    by_cases e : c = 45
    · subst e
      rw [puts_take, fs_take]
      unfold qStep
      dsimp only
      rw [if_pos rfl]
      by_cases h0 : z.length = 0
      · rw [if_pos h0]
        refine ⟨fun _ => ?_, fun z e => nomatch e⟩
        unfold okOld; dsimp only; omega
      · rw [if_neg h0]
        refine ⟨(fun e => nomatch e), fun z' e => ?_⟩
        cases e
        refine ⟨by unfold okOld; dsimp only; omega, ?_, tail_take tl h0⟩
        rw [end_of, List.length_drop]; unfold net; dsimp only; omega
    · rw [puts_put e, fs_put e]
      unfold qStep
      dsimp only
      rw [if_neg e]
      by_cases hlt : z.length < C
      · rw [if_pos hlt]
        refine ⟨(fun e => nomatch e), fun z' e => ?_⟩
        cases e
        refine ⟨by unfold okOld; dsimp only; omega, ?_, tail_put tl c⟩
        rw [end_of, List.length_append, List.length_singleton]; unfold net; dsimp only; omega
      · rw [if_neg hlt]
        refine ⟨(fun e => nomatch e), fun z' e => ?_⟩
        cases e
        refine ⟨by unfold okOld; dsimp only; omega, ?_, tail_full tl (by omega) c⟩
        rw [end_of, List.length_append, List.length_singleton, List.length_drop]; unfold net; dsimp only; omega
theorem str_step {C : Nat} {q P : List Nat} {f : Five} {st : Option (List Nat)} (hC : 1 ≤ C) (hq : q.length ≤ C) (pf : PfOk f) (h : Stands (okStr C q.length) C q P f st) (c : Nat) : Stands (okStr C q.length) C q (P ++ putsOf [c]) (fiveStep f c) (qStep C .strict st c) := by
  obtain ⟨h1, h2, h3, h4, h5, h6, h7, h8, h9⟩ := pf
  cases st with
  | none =>
    have n := h.none_ rfl
    refine ⟨fun _ => ?_, fun z e => nomatch (show (none : Option (List Nat)) = some z from e)⟩
    unfold okStr at n ⊢
    by_cases e : c = 45
    · subst e; rw [fs_take]; dsimp only; omega
    · rw [fs_put e]; dsimp only; omega
  | some z =>
    obtain ⟨ok, el, tl⟩ := h.some_ z rfl
    rw [end_of] at el
    unfold okStr at ok
    unfold net at el
    by_cases e : c = 45
    · subst e
      rw [puts_take, fs_take]
      unfold qStep
      dsimp only
      rw [if_pos rfl]
      by_cases h0 : z.length = 0
      · rw [if_pos h0]
        refine ⟨fun _ => ?_, fun z e => nomatch e⟩
        unfold okStr; dsimp only; omega
      · rw [if_neg h0]
        refine ⟨(fun e => nomatch e), fun z' e => ?_⟩
        cases e
        refine ⟨by unfold okStr; dsimp only; omega, ?_, tail_take tl h0⟩
        rw [end_of, List.length_drop]; unfold net; dsimp only; omega
    · rw [puts_put e, fs_put e]
      unfold qStep
      dsimp only
      rw [if_neg e]
      by_cases hlt : z.length < C
      · rw [if_pos hlt]
        refine ⟨(fun e => nomatch e), fun z' e => ?_⟩
        cases e
        refine ⟨by unfold okStr; dsimp only; omega, ?_, tail_put tl c⟩
        rw [end_of, List.length_append, List.length_singleton]; unfold net; dsimp only; omega
      · rw [if_neg hlt]
        refine ⟨fun _ => ?_, fun z e => nomatch e⟩
        unfold okStr; dsimp only; omega
/-- newest: as long as nothing is lost it is oldest -/
theorem new_step {C : Nat} {q P : List Nat} {f : Five} {st : Option (List Nat)} {c : Nat} (pf : PfOk f) (h : Stands (okOld C q.length) C q P f st) (hh : (q.length : Int) + (fiveStep f c).2.2.2.1 ≤ (C : Int)) : qStep C .newest st c = qStep C .oldest st c := by
  obtain ⟨h1, h2, h3, h4, h5, h6, h7, h8, h9⟩ := pf
  cases st with
  | none => rfl
  | some z =>
    obtain ⟨ok, el, tl⟩ := h.some_ z rfl
    rw [end_of] at el
    unfold net at el
    unfold qStep
    dsimp only
    by_cases e : c = 45
    · rw [if_pos e, if_pos e]
    · rw [if_neg e, if_neg e]
      rw [fs_put e] at hh
      dsimp only at hh
      have hlt : z.length < C := by omega
      rw [if_pos hlt, if_pos hlt]
theorem high_step (f : Five) (c : Nat) : f.2.2.2.1 ≤ (fiveStep f c).2.2.2.1 := by
  unfold fiveStep joined
  dsimp only
  omega
theorem high_steps : ∀ (u : List Nat) (f : Five), f.2.2.2.1 ≤ (u.foldl fiveStep f).2.2.2.1
  | [], _ => Int.le_refl _
  | c :: u, f => Int.le_trans (high_step f c) (high_steps u (fiveStep f c))
theorem puts_cons (P : List Nat) (c : Nat) (u : List Nat) : P ++ putsOf (c :: u) = (P ++ putsOf [c]) ++ putsOf u := by
  rw [List.append_assoc, ← puts_append]; rfl
theorem old_steps {C : Nat} {q : List Nat} (hC : 1 ≤ C) (hq : q.length ≤ C) : ∀ (u : List Nat) {P : List Nat} {f : Five} {st : Option (List Nat)}, PfOk f → Stands (okOld C q.length) C q P f st → Stands (okOld C q.length) C q (P ++ putsOf u) (u.foldl fiveStep f) (runQ C .oldest st u)
  | [], P, f, st, pf, h => by rw [show putsOf [] = [] from rfl, List.append_nil]; exact h
  | c :: u, P, f, st, pf, h => by
    rw [puts_cons]
    exact old_steps hC hq u (pf_step pf c) (old_step hC hq pf h c)
theorem str_steps {C : Nat} {q : List Nat} (hC : 1 ≤ C) (hq : q.length ≤ C) : ∀ (u : List Nat) {P : List Nat} {f : Five} {st : Option (List Nat)}, PfOk f → Stands (okStr C q.length) C q P f st → Stands (okStr C q.length) C q (P ++ putsOf u) (u.foldl fiveStep f) (runQ C .strict st u)
  | [], P, f, st, pf, h => by rw [show putsOf [] = [] from rfl, List.append_nil]; exact h
  | c :: u, P, f, st, pf, h => by
    rw [puts_cons]
    exact str_steps hC hq u (pf_step pf c) (str_step hC hq pf h c)
theorem new_steps {C : Nat} {q : List Nat} (hC : 1 ≤ C) (hq : q.length ≤ C) : ∀ (u : List Nat) {P : List Nat} {f : Five} {st : Option (List Nat)}, PfOk f → Stands (okOld C q.length) C q P f st → (q.length : Int) + (u.foldl fiveStep f).2.2.2.1 ≤ (C : Int) → runQ C .newest st u = runQ C .oldest st u
  | [], _, _, _, _, _, _ => rfl
  | c :: u, P, f, st, pf, h, hh => by
    have e : runQ C .newest st (c :: u) = runQ C .newest (qStep C .newest st c) u := rfl
    have hh1 : (q.length : Int) + (fiveStep f c).2.2.2.1 ≤ (C : Int) := by
      have := high_steps u (fiveStep f c)
      have : (List.foldl fiveStep f (c :: u)) = u.foldl fiveStep (fiveStep f c) := rfl
      rw [this] at hh
      omega
    rw [e, new_step pf h hh1]
    exact new_steps hC hq u (pf_step pf c) (old_step hC hq pf h c) hh
theorem stands_old0 {C : Nat} {q : List Nat} (hq : q.length ≤ C) : Stands (okOld C q.length) C q [] nothing (some q) := by
  refine ⟨(fun e => nomatch e), fun z e => ?_⟩
  cases e
  refine ⟨by unfold okOld nothing; dsimp only; omega, ?_, tail_start q⟩
  rw [end_of]; unfold net nothing; dsimp only; omega
theorem stands_str0 {C : Nat} {q : List Nat} (hq : q.length ≤ C) : Stands (okStr C q.length) C q [] nothing (some q) := by
  refine ⟨(fun e => nomatch e), fun z e => ?_⟩
  cases e
  refine ⟨by unfold okStr nothing; dsimp only; omega, ?_, tail_start q⟩
  rw [end_of]; unfold net nothing; dsimp only; omega
/-- the answer by length, once it stands -/
theorem by_length {is : List Pc} {C : Nat} {q : List Nat} {st : Option (List Nat)} {ok : Five → Prop} {m : Mode} (h : Stands ok C q (putsOf (expand is)) (fiveOf is) st)
    (yes : ok (fiveOf is) → ∃ lo hi, startRange (fiveOf is) C m = some (lo, hi) ∧ lo ≤ (q.length : Int) ∧ (q.length : Int) ≤ hi) (no : ¬ ok (fiveOf is) → ∀ lo hi, startRange (fiveOf is) C m = some (lo, hi) → ¬ (lo ≤ (q.length : Int) ∧ (q.length : Int) ≤ hi)) :
    resultByLength is (fiveOf is) C m q = st := by
  cases st with
  | none =>
    have n := no (h.none_ rfl)
    unfold resultByLength
    cases e : startRange (fiveOf is) C m with
    | none => rfl
    | some p =>
      obtain ⟨lo, hi⟩ := p
      dsimp only
      rw [if_neg (n lo hi e)]
  | some z =>
    obtain ⟨o, el, tl⟩ := h.some_ z rfl
    obtain ⟨lo, hi, e, h1, h2⟩ := yes o
    unfold resultByLength
    rw [e]
    dsimp only
    rw [if_pos ⟨h1, h2⟩]
    have ez : (endOf (fiveOf is) C q.length).toNat = z.length := by omega
    rw [ez]
    refine congrArg some ?_
    have e3 : ∀ k, (q ++ lastOf is k).drop ((q ++ lastOf is k).length - k) = lastN k (q ++ putsOf (expand is)) := fun k => by
      rw [lastOf_eq]
      show lastN k (q ++ lastN k (putsOf (expand is))) = _
      rw [lastN_append, lastN_append k q, lastN_lastN (Nat.le_refl _), lastN_len]
      congr 2
      omega
    rw [e3, ← tl.2]
theorem old_result {is : List Pc} {C : Nat} {q : List Nat} (hC : 1 ≤ C) (hq : q.length ≤ C) : resultByLength is (fiveOf is) C .oldest q = runQ C .oldest (some q) (expand is) := by
  have h := old_steps hC hq (expand is) pf_nothing (stands_old0 hq)
  rw [List.nil_append] at h
  have e : (expand is).foldl fiveStep nothing = fiveOf is := (prof_of is).symm
  rw [e] at h
  refine by_length h (fun o => ?_) fun no lo hi e2 => ?_
  · unfold okOld at o
    unfold startRange
    exact ⟨_, _, if_pos o.2, o.1, by omega⟩
  · unfold okOld at no
    unfold startRange at e2
    dsimp only at e2
    split at e2
    · cases e2; omega
    · cases e2
theorem str_result {is : List Pc} {C : Nat} {q : List Nat} (hC : 1 ≤ C) (hq : q.length ≤ C) : resultByLength is (fiveOf is) C .strict q = runQ C .strict (some q) (expand is) := by
  have h := str_steps hC hq (expand is) pf_nothing (stands_str0 hq)
  rw [List.nil_append] at h
  have e : (expand is).foldl fiveStep nothing = fiveOf is := (prof_of is).symm
  rw [e] at h
  refine by_length h (fun o => ?_) fun no lo hi e2 => ?_
  · unfold okStr at o
    unfold startRange
    exact ⟨_, _, if_pos (by omega), o.1, by omega⟩
  · unfold okStr at no
    unfold startRange at e2
    dsimp only at e2
    split at e2
    · cases e2; omega
    · cases e2
theorem new_result {is : List Pc} {C : Nat} {q : List Nat} (hC : 1 ≤ C) (hq : q.length ≤ C) (hh : (q.length : Int) + (fiveOf is).2.2.2.1 ≤ (C : Int)) : resultByLength is (fiveOf is) C .oldest q = runQ C .newest (some q) (expand is) := by
  rw [old_result hC hq]
  refine (new_steps hC hq (expand is) pf_nothing (stands_old0 hq) ?_).symm
  have e : (expand is).foldl fiveStep nothing = fiveOf is := (prof_of is).symm
  rw [e]
  exact hh
end Fq

set_option Elab.async false
set_option linter.all false
/-! Newest: a part that repeats settles. -/
namespace Fq
def code (st : Option (List Nat)) : Nat := match st with
  | none => 0
  | some z => z.length + 1
theorem code_none : code none = 0 := rfl
theorem code_some (z : List Nat) : code (some z) = z.length + 1 := rfl
theorem code_step {C : Nat} {st st' : Option (List Nat)} (c : Nat) (h : code st ≤ code st') : code (qStep C .newest st c) ≤ code (qStep C .newest st' c) := by
  cases st with
  | none => exact Nat.zero_le _
  | some z =>
    cases st' with
    | none => exact absurd h (by rw [code_none, code_some]; omega)
    | some z' =>
      have h : z.length ≤ z'.length := by simp only [code_none, code_some] at h; omega
      unfold qStep
      dsimp only
      by_cases e : c = 45
      · rw [if_pos e, if_pos e]
        by_cases h0 : z.length = 0
        · rw [if_pos h0]; exact Nat.zero_le _
        · rw [if_neg h0, if_neg (by omega)]
          simp only [code_none, code_some]
          rw [List.length_drop, List.length_drop]; omega
      · rw [if_neg e, if_neg e]
        by_cases h1 : z.length < C
        · rw [if_pos h1]
          by_cases h2 : z'.length < C
          · rw [if_pos h2]; simp only [code_none, code_some]; rw [List.length_append, List.length_append]; omega
          · rw [if_neg h2]; simp only [code_none, code_some]; rw [List.length_append, List.length_singleton]; omega
        · rw [if_neg h1, if_neg (by omega)]; simp only [code_none, code_some]; omega
theorem code_run {C : Nat} : ∀ (u : List Nat) {st st' : Option (List Nat)}, code st ≤ code st' → code (runQ C .newest st u) ≤ code (runQ C .newest st' u)
  | [], _, _, h => h
  | c :: u, _, _, h => code_run u (code_step c h)
theorem code_top {C : Nat} {m : Mode} {st : Option (List Nat)} (hC : 1 ≤ C) (c : Nat) (h : code st ≤ C + 1) : code (qStep C m st c) ≤ C + 1 := by
  cases st with
  | none => exact Nat.zero_le _
  | some z =>
    have h : z.length ≤ C := by simp only [code_none, code_some] at h; omega
    unfold qStep
    dsimp only
    split
    · split
      · exact Nat.zero_le _
      · simp only [code_none, code_some]; rw [List.length_drop]; omega
    · split
      · simp only [code_none, code_some]; rw [List.length_append, List.length_singleton]; omega
      · cases m with
        | oldest => simp only [code_none, code_some]; rw [List.length_append, List.length_singleton, List.length_drop]; omega
        | newest => rw [code_some]; omega
        | strict => exact Nat.zero_le _
theorem code_tops {C : Nat} {m : Mode} (hC : 1 ≤ C) : ∀ (u : List Nat) {st : Option (List Nat)}, code st ≤ C + 1 → code (runQ C m st u) ≤ C + 1
  | [], _, h => h
  | c :: u, _, h => code_tops hC u (code_top hC c h)
/-- numbers that follow one another by a law that rises, and stay low: two neighbours are equal -/
theorem meet {f : Nat → Nat} {B : Nat} (hb : ∀ j, f j ≤ B) (hm : ∀ i j, f i ≤ f j → f (i + 1) ≤ f (j + 1)) : ∃ J, J ≤ B ∧ f (J + 1) = f J := by
  refine Classical.byContradiction fun hn => ?_
  have ne : ∀ j, j ≤ B → f (j + 1) ≠ f j := fun j hj e => hn ⟨j, hj, e⟩
  rcases Nat.le_total (f 0) (f 1) with h | h
  · have up : ∀ j, f j ≤ f (j + 1) := by
      intro j
      induction j with
      | zero => exact h
      | succ j ih => exact hm _ _ ih
    have big : ∀ j, j ≤ B + 1 → j ≤ f j := by
      intro j
      induction j with
      | zero => intro _; exact Nat.zero_le _
      | succ j ih =>
        intro hj
        have h1 := ih (by omega)
        have h2 := up j
        have h3 := ne j (by omega)
        omega
    have := big (B + 1) (Nat.le_refl _)
    have := hb (B + 1)
    omega
  · have dn : ∀ j, f (j + 1) ≤ f j := by
      intro j
      induction j with
      | zero => exact h
      | succ j ih => exact hm _ _ ih
    have big : ∀ j, j ≤ B + 1 → f j + j ≤ B := by
      intro j
      induction j with
      | zero => intro _; have := hb 0; omega
      | succ j ih =>
        intro hj
        have h1 := ih (by omega)
        have h2 := dn j
        have h3 := ne j (by omega)
        omega
    have := big (B + 1) (Nat.le_refl _)
    omega
theorem times_snoc (j : Nat) (l : List Nat) : times (j + 1) l = times j l ++ l := by
  rw [times_add]; simp [times]
/-- one turn's rows, again and again on a queue whose length stays -/
theorem turns_fix {l k : Nat} {w : List Nat} (hkw : k + w.length = l) {z : Nat → List Nat} (hl : ∀ i, (z i).length = l) (hz : ∀ i, z (i + 1) = (z i).drop ((z i).length - k) ++ w) : ∀ i, l ≤ i → z (i + 1) = z i := by
  have form : ∀ i, z i = lastN l (z 0 ++ times i w) := by
    intro i
    induction i with
    | zero => rw [times_zero, List.append_nil]; exact (lastN_big (by rw [hl]; omega)).symm
    | succ i ih =>
      rw [hz, hl, times_snoc, ← List.append_assoc, lastN_append, lastN_big (l := w) (by omega), ih]
      congr 1
      unfold lastN
      rw [List.drop_drop, List.length_append, hl]
      congr 1
      omega
  intro i hi
  by_cases h0 : w.length = 0
  · have e : w = [] := List.eq_nil_of_length_eq_zero h0
    subst e
    have hk : k = l := by simpa using hkw
    rw [hz, hl, hk, Nat.sub_self, List.drop_zero, List.append_nil]
  · have big : l ≤ (times i w).length := by
      rw [times_len]
      have : i * 1 ≤ i * w.length := Nat.mul_le_mul_left i (by omega)
      omega
    rw [form (i + 1), form i, times_succ, ← List.append_assoc, lastN_left big, lastN_left big]
/-- a part that repeats settles within 2C + 1 turns -/
theorem settle {C : Nat} (hC : 1 ≤ C) {T : List Row} {u : List Nat} (hT : Runs C .newest T u) {z : List Nat} (hz : z.length ≤ C) : ∃ J, J ≤ 2 * C + 1 ∧ runQ C .newest (some z) (times (J + 1) u) = runQ C .newest (some z) (times J u) := by
  have next : ∀ j, runQ C .newest (some z) (times (j + 1) u) = runQ C .newest (runQ C .newest (some z) (times j u)) u := fun j => by rw [times_snoc, runQ_append]
  have top : ∀ j, code (runQ C .newest (some z) (times j u)) ≤ C + 1 := fun j => code_tops hC _ (by rw [code_some]; omega)
  generalize ha : (fun j => runQ C .newest (some z) (times j u)) = a
  have next : ∀ j, a (j + 1) = runQ C .newest (a j) u := by rw [← ha]; exact next
  have top : ∀ j, code (a j) ≤ C + 1 := by rw [← ha]; exact top
  suffices h : ∃ J, J ≤ 2 * C + 1 ∧ a (J + 1) = a J by rw [← ha] at h; exact h
  obtain ⟨J, hJ, e⟩ := meet (f := fun j => code (a j)) (B := C + 1) top (fun i j h => by show code (a (i + 1)) ≤ code (a (j + 1)); rw [next, next]; exact code_run u h)
  have same : ∀ i, code (a (J + i)) = code (a J) := by
    have one : ∀ i, code (a (J + i + 1)) = code (a (J + i)) := by
      intro i
      induction i with
      | zero => exact e
      | succ i ih =>
        have h1 : code (a (J + i + 1 + 1)) ≤ code (a (J + i + 1)) := by
          have t := code_run (C := C) u (Nat.le_of_eq ih)
          rwa [← next, ← next] at t
        have h2 : code (a (J + i + 1)) ≤ code (a (J + i + 1 + 1)) := by
          have t := code_run (C := C) u (Nat.le_of_eq ih.symm)
          rwa [← next, ← next] at t
        exact Nat.le_antisymm h1 h2
    intro i
    induction i with
    | zero => rfl
    | succ i ih => exact (one i).trans ih
  cases hs : a J with
  | none => exact ⟨J, by omega, by rw [next, hs]; exact runQ_none _ _ _⟩
  | some z0 =>
    rw [hs] at same
    have some_ : ∀ i, ∃ zi, a (J + i) = some zi ∧ zi.length = z0.length := fun i => by
      have q := same i
      cases h : a (J + i) with
      | none => rw [h] at q; exact absurd q (by rw [code_none, code_some]; omega)
      | some zi => rw [h] at q; exact ⟨zi, rfl, by simp only [code_none, code_some] at q; omega⟩
    have hz0 : z0.length ≤ C := by
      have := top J
      rw [hs] at this
      simp only [code_none, code_some] at this
      omega
    let zz : Nat → List Nat := fun i => (a (J + i)).getD []
    have hzz : ∀ i, a (J + i) = some (zz i) := fun i => by
      obtain ⟨zi, h, _⟩ := some_ i
      show a (J + i) = some ((a (J + i)).getD [])
      rw [h]; rfl
    have hlen : ∀ i, (zz i).length = z0.length := fun i => by
      obtain ⟨zi, h, h2⟩ := some_ i
      rw [hzz i] at h
      cases h
      exact h2
    have turn : ∀ i, some (zz (i + 1)) = resultOf T (zz i) := fun i => by
      rw [hT.res _ (by rw [hlen]; exact hz0), ← hzz i, ← hzz (i + 1)]
      exact next (J + i)
    have row : ∃ k w, T.getD z0.length none = some (k, w) ∧ k + w.length = z0.length := by
      have t := turn 0
      unfold resultOf at t
      rw [hlen] at t
      cases h : T.getD z0.length none with
      | none => rw [h] at t; cases t
      | some r =>
        obtain ⟨k, w⟩ := r
        refine ⟨k, w, rfl, ?_⟩
        rw [h] at t
        have hk := hT.good.kept _ _ _ h
        have t := congrArg List.length (Option.some.inj t)
        rw [len_apply (by rw [hlen]; exact hk), hlen] at t
        exact t.symm
    obtain ⟨k, w, hr, hkw⟩ := row
    have fix := turns_fix (z := zz) hkw hlen (fun i => by
      have t := turn i
      unfold resultOf at t
      rw [hlen, hr] at t
      exact Option.some.inj t) z0.length (Nat.le_refl _)
    refine ⟨J + z0.length, by omega, ?_⟩
    have e1 := hzz (z0.length + 1)
    rw [fix, ← hzz z0.length] at e1
    exact e1
theorem settled {C : Nat} (hC : 1 ≤ C) {T : List Row} {u : List Nat} (hT : Runs C .newest T u) {z : List Nat} (hz : z.length ≤ C) (n : Nat) : runQ C .newest (some z) (times (min n (2 * C + 2)) u) = runQ C .newest (some z) (times n u) := by
  obtain ⟨J, hJ, e⟩ := settle hC hT hz
  have const : ∀ i, runQ C .newest (some z) (times (J + i) u) = runQ C .newest (some z) (times J u) := by
    intro i
    induction i with
    | zero => rfl
    | succ i ih => rw [show J + (i + 1) = J + i + 1 by omega, times_snoc, runQ_append, ih, ← runQ_append, ← times_snoc, e]
  by_cases h : n ≤ 2 * C + 2
  · rw [Nat.min_eq_left h]
  · rw [Nat.min_eq_right (by omega), show n = J + (n - J) by omega, show 2 * C + 2 = J + (2 * C + 2 - J) by omega, const, const]
/-! ### the answer by one row -/
theorem by_row_item {C : Nat} (hC : 1 ≤ C) {q : List Nat} (hq : q.length ≤ C) {r : Row} (g : GoodRow q.length C r) {i : Pc} (hi : i.Ok) : GoodRow q.length C (rowItem C .newest r i) ∧ applyRow (rowItem C .newest r i) q = runQ C .newest (applyRow r q) (expItem i) := by
  cases i with
  | t s =>
    have key : ∀ (s : List Nat) {r : Row}, (∀ c ∈ s, Step c) → GoodRow q.length C r → GoodRow q.length C (s.foldl (fun r c => rowAfter r c C .newest) r) ∧ applyRow (s.foldl (fun r c => rowAfter r c C .newest) r) q = runQ C .newest (applyRow r q) s := by
      intro s
      induction s with
      | nil => exact fun _ g => ⟨g, rfl⟩
      | cons c s ih =>
        intro r hs g
        obtain ⟨h1, h2⟩ := ih (r := rowAfter r c C .newest) (fun x hx => hs x (List.mem_cons_of_mem _ hx)) (goodRow_after g (hs c List.mem_cons_self) hC)
        refine ⟨h1, h2.trans ?_⟩
        rw [apply_after (fun k w e => (g k w e).1) c hC fun k w e => (g k w e).2.1]
        rfl
    exact key s hi.2 g
  | r b n =>
    have hT := runs_flat (m := .newest) hC b fun s hs => (hi.2.1 s hs).2
    have one : ∀ {r : Row}, GoodRow q.length C r → applyRow (joinedRow r (rowsFlat b C .newest)) q = runQ C .newest (applyRow r q) b.flatten := fun {r} g => by
      rw [apply_joined (fun k w e => (g k w e).1) hT.good.kept]
      cases e : applyRow r q with
      | none => exact (runQ_none _ _ _).symm
      | some v =>
        refine hT.res v ?_
        cases r with
        | none => cases e
        | some r =>
          obtain ⟨k, w⟩ := r
          have q1 := g k w rfl
          cases e
          rw [len_apply q1.1]
          exact q1.2.1
    have key : ∀ (m : Nat), GoodRow q.length C ((List.range m).foldl (fun r _ => joinedRow r (rowsFlat b C .newest)) r) ∧ applyRow ((List.range m).foldl (fun r _ => joinedRow r (rowsFlat b C .newest)) r) q = runQ C .newest (applyRow r q) (times m b.flatten) := by
      intro m
      induction m with
      | zero => exact ⟨g, rfl⟩
      | succ m ih =>
        rw [List.range_succ, List.foldl_append]
        refine ⟨goodRow_joined ih.1 hT.good, ?_⟩
        show applyRow (joinedRow _ _) q = _
        rw [one ih.1, ih.2, times_snoc, runQ_append]
    obtain ⟨h1, h2⟩ := key (min n (2 * C + 2))
    refine ⟨h1, h2.trans ?_⟩
    show _ = runQ C .newest (applyRow r q) (times n b.flatten)
    cases e : applyRow r q with
    | none => rw [runQ_none, runQ_none]
    | some v =>
      refine settled hC hT ?_ n
      cases r with
      | none => cases e
      | some r =>
        obtain ⟨k, w⟩ := r
        have q1 := g k w rfl
        cases e
        rw [len_apply q1.1]
        exact q1.2.1
theorem by_row {C : Nat} (hC : 1 ≤ C) {q : List Nat} (hq : q.length ≤ C) {is : List Pc} (h : ItsOk is) : resultByRow is C .newest q = runQ C .newest (some q) (expand is) := by
  unfold resultByRow rowOfProgram
  have key : ∀ (is : List Pc) {r : Row}, (∀ i ∈ is, i.Ok) → GoodRow q.length C r → applyRow (is.foldl (rowItem C .newest) r) q = runQ C .newest (applyRow r q) (expand is) := by
    intro is
    induction is with
    | nil => exact fun _ _ => rfl
    | cons i is ih =>
      intro r hb g
      obtain ⟨h1, h2⟩ := by_row_item hC hq g (hb i List.mem_cons_self)
      rw [List.foldl_cons, ih (fun x hx => hb x (List.mem_cons_of_mem _ hx)) h1, h2, ← runQ_append]
      rfl
  rw [key is h.ok (fun k w e => by cases e; exact ⟨Nat.le_refl _, by simpa using hq, fun c hc => nomatch hc⟩)]
  show runQ C .newest (some (q.drop (q.length - q.length) ++ [])) _ = _
  rw [Nat.sub_self, List.drop_zero, List.append_nil]
end Fq

set_option Elab.async false
set_option linter.all false
/-! The plain law of the capacities that fit. -/
namespace Fq
theorem fits_good {is : List Pc} (h : ItsOk is) {C : Nat} (hC : 1 ≤ C) (m : Mode) (fs : List Fact) : fits is (fiveOf is) C m fs = true ↔ factGood is C m fs := by
  have run : ∀ q : List Nat, q.length ≤ C → resultOf (rowsOf is C m) q = runQ C m (some q) (expand is) := (runs_of hC h).res
  unfold factGood fits
  by_cases far : fs.any (fun p => decide (C < p.1.length)) = true
  · rw [if_pos far]
    obtain ⟨f, hf, e⟩ := List.any_eq_true.mp far
    exact ⟨fun z => (nomatch z), fun g => absurd (g f hf).1 (Nat.not_le_of_lt (of_decide_eq_true e))⟩
  · rw [if_neg far]
    have near : ∀ f ∈ fs, f.1.length ≤ C := fun f hf => Nat.le_of_not_lt fun lt => far (List.any_eq_true.mpr ⟨f, hf, decide_eq_true lt⟩)
    have key : ∀ g : Fact → Option (List Nat), (∀ f ∈ fs, g f = runQ C m (some f.1) (expand is)) → ((fs.all fun p => decide (g p = p.2)) = true ↔ ∀ f ∈ fs, f.1.length ≤ C ∧ resultOf (rowsOf is C m) f.1 = f.2) := fun g hg => by
      rw [List.all_eq_true]
      constructor
      · intro z f hf
        exact ⟨near f hf, ((run f.1 (near f hf)).trans (hg f hf).symm).trans (of_decide_eq_true (z f hf))⟩
      · intro z f hf
        exact decide_eq_true (((hg f hf).trans (run f.1 (near f hf)).symm).trans (z f hf).2)
    cases m with
    | oldest => exact key (fun p => resultByLength is (fiveOf is) C .oldest p.1) fun f hf => old_result hC (near f hf)
    | strict => exact key (fun p => resultByLength is (fiveOf is) C .strict p.1) fun f hf => str_result hC (near f hf)
    | newest =>
      dsimp only
      split
      · rename_i hh
        exact key (fun p => resultByLength is (fiveOf is) C .oldest p.1) fun f hf => new_result hC (near f hf) (of_decide_eq_true (List.all_eq_true.mp hh f hf))
      · exact key (fun p => resultByRow is C .newest p.1) fun f hf => by_row hC (near f hf) h
theorem mem_fitting {is : List Pc} (h : ItsOk is) {m : Mode} {fs : List Fact} (C : Nat) : C ∈ fitting is m fs ↔ (1 ≤ C ∧ C ≤ 100) ∧ factGood is C m fs := by
  unfold fitting
  rw [List.mem_filter, List.mem_map]
  constructor
  · rintro ⟨⟨n, hn, rfl⟩, q⟩
    rw [List.mem_range] at hn
    exact ⟨⟨by omega, by omega⟩, (fits_good h (by omega) m fs).mp q⟩
  · rintro ⟨⟨h1, h2⟩, q⟩
    exact ⟨⟨C - 1, List.mem_range.mpr (by omega), by omega⟩, (fits_good h h1 m fs).mpr q⟩
theorem rise_fitting (is : List Pc) (m : Mode) (fs : List Fact) : (fitting is m fs).Pairwise (· < ·) := by
  unfold fitting
  refine List.Pairwise.filter _ ?_
  rw [List.pairwise_map]
  exact List.pairwise_lt_range.imp fun h => Nat.succ_lt_succ h
end Fq

set_option Elab.async false
set_option linter.all false
set_option maxRecDepth 100000
/-! The other table of the law; heaps in which the pool alone changes. -/
namespace Fq
open PySem PySem.Spec PyProof.Rows L2
open Evl (Ex Ex.refl Ex.trans Ex.new Ex.mut)
theorem set_good {C i : Nat} {rows : List Row} {r : Row} (h : GoodRows C rows) (hr : GoodRow i C r) : GoodRows C (rows.set i r) := by
  refine ⟨by rw [List.length_set]; exact h.len, fun n q e => ?_⟩
  rw [List.getElem?_set] at e
  by_cases hi : i = n
  · rw [if_pos hi] at e
    split at e
    · cases e
      rw [← hi]
      exact hr
    · cases e
  · rw [if_neg hi] at e
    exact h.ok n q e
theorem good_some {i C k : Nat} {w : List Nat} (h1 : k ≤ i) (h2 : k + w.length ≤ C) (h3 : ∀ c ∈ w, Letter c) : GoodRow i C (some (k, w)) := fun k' w' e => by
  cases e
  exact ⟨h1, h2, h3⟩
theorem good_none (i C : Nat) : GoodRow i C none := fun _ _ e => nomatch e
theorem other_row {C i : Nat} {rows : List Row} (h : GoodRows C rows) (hi : i ≤ C) : ∃ r, other rows i = rows.set i r ∧ GoodRow i C r ∧ rows[i]? ≠ some r := by
  have hlt : i < rows.length := by rw [h.len]; omega
  have e : rows[i]? = some rows[i] := List.getElem?_eq_getElem hlt
  have ed : rows.getD i none = rows[i] := by rw [List.getD_eq_getElem?_getD, e, Option.getD_some]
  have g := h.ok i _ e
  unfold other
  rw [ed, e]
  cases q : rows[i] with
  | none => exact ⟨some (0, []), rfl, good_some (Nat.zero_le _) (Nat.zero_le _) (fun c hc => nomatch hc), fun z => by cases z⟩
  | some r =>
    obtain ⟨k, w⟩ := r
    obtain ⟨g1, g2, g3⟩ := g k w q
    dsimp only
    by_cases hk : k > 0
    · rw [if_pos hk]
      refine ⟨_, rfl, good_some (by omega) (by rw [List.length_cons]; omega) (fun c hc => ?_), fun z => ?_⟩
      · rcases List.mem_cons.mp hc with rfl | hc
        · exact ⟨by decide, by decide⟩
        · exact g3 c hc
      · have z := Option.some.inj (Option.some.inj z)
        have := congrArg Prod.fst z
        dsimp only at this
        omega
    · rw [if_neg hk]
      exact ⟨none, rfl, good_none i C, fun z => by cases z⟩
theorem other_good {C i : Nat} {rows : List Row} (h : GoodRows C rows) (hi : i ≤ C) : GoodRows C (other rows i) := by
  obtain ⟨r, e, g, _⟩ := other_row h hi
  rw [e]
  exact set_good h g
theorem other_ne {C i : Nat} {rows : List Row} (h : GoodRows C rows) (hi : i ≤ C) : other rows i ≠ rows := by
  obtain ⟨r, e, g, n⟩ := other_row h hi
  rw [e]
  intro z
  have hlt : i < rows.length := by rw [h.len]; omega
  have q : (rows.set i r)[i]? = some r := by rw [List.getElem?_set, if_pos rfl, if_pos hlt]
  rw [z] at q
  exact n q
theorem GoodRows.allSigns {C : Nat} {rows : List Row} (h : GoodRows C rows) : ∀ r ∈ rows, Signs r := fun r hr => by
  obtain ⟨n, hn⟩ := List.mem_iff_getElem?.mp hr
  exact (h.ok n r hn).signs
/-- what is no list stands where the pool alone changes -/
theorem ExB.t {p : Addr} {H H' : Hp} (e : ExB p H H') (h : PoolV H p) : ExT H H' := fun b o n q => by
  refine e b o (fun z => ?_) q
  obtain ⟨x, y, hp, _⟩ := h
  rw [z, hp] at q
  cases q
  exact n _ rfl
theorem EffV.t {C : Addr} {H H' : Hp} {v : V} {rows : List Row} (e : ExT H H') (h : EffV C H v rows) : EffV C H' v rows := by
  obtain ⟨a, dx, t, rfl, ha, b, vs, rfl, hb, hv⟩ := h
  refine ⟨a, dx, .ref b, rfl, e a _ (fun _ z => nomatch z) ha, b, vs, rfl, e b _ (fun _ z => nomatch z) hb, Paired.mapP hv fun u r q => ?_⟩
  cases r with
  | none => exact q
  | some r =>
    obtain ⟨c, h1, h2⟩ := q
    exact ⟨c, h1, e c _ (fun _ z => nomatch z) h2⟩
theorem TabV.t {H H' : Hp} {v : V} {rows : List Row} (e : ExT H H') (h : TabV H v rows) : TabV H' v rows := by
  obtain ⟨b, vs, rfl, hb, hv⟩ := h
  refine ⟨b, vs, rfl, e b _ (fun _ z => nomatch z) hb, Paired.mapP hv fun u r q => ?_⟩
  cases r with
  | none => exact q
  | some r =>
    obtain ⟨c, h1, h2⟩ := q
    exact ⟨c, h1, e c _ (fun _ z => nomatch z) h2⟩
/-- a list of texts is not the pool -/
theorem strs_ne {H : Hp} {p t : Addr} {qs : List (List Nat)} (hp : PoolV H p) (ht : H t = some (.lst (qs.map fun q => V.str (SX.S q)))) : t ≠ p := fun z => by
  obtain ⟨x, y, h, _⟩ := hp
  rw [z, h] at ht
  have e := HO.lst.inj (Option.some.inj ht)
  cases qs with
  | nil => cases e
  | cons q qs => rw [List.map_cons] at e; injection e with e _; cases e
theorem sq_keep {K : PySem.W.Frag} {H H' : Hp} {a : Addr} {xs : List V} (k : ∀ o, H a = some o → H' a = some o) (h : SqL K H a xs) : SqL K H' a xs := by
  rcases h with (h | ⟨o, h⟩) | h
  · exact .inl (.inl (k _ h))
  · exact .inl (.inr ⟨o, k _ h⟩)
  · exact .inr h
theorem sq_ex {K : PySem.W.Frag} {H H' : Hp} {a : Addr} {xs : List V} (e : Ex H H') (h : SqL K H a xs) : SqL K H' a xs := sq_keep (fun o q => e a o q) h
/-- an old list stands while the new pool changes -/
theorem sq_pool {K : PySem.W.Frag} {H H1 H2 : Hp} {a p : Addr} {xs : List V} (e : Ex H H1) (hp : H p = none) (e2 : ExB p H1 H2) (h : SqL K H a xs) : SqL K H2 a xs :=
  sq_keep (fun o q => e2 a o (fun z => by rw [z, hp] at q; cases q) (e a o q)) h
end Fq

set_option Elab.async false
set_option linter.all false
set_option maxRecDepth 100000
set_option maxHeartbeats 4000000
namespace Fq
open PySem PySem.Spec PyProof.Rows L2
open Evl (Ex Ex.refl Ex.trans Ex.new Ex.mut fresh_back ex_l ex_t sq_of st_of)
section
variable {P : Program} {w : World} {K : PySem.W.Frag} {mg : Str → Option Value} {base : Heap}
def sp_law (K : PySem.W.Frag) : Sp := fun vs H Q _ => ∃ (a : Addr) (ns : List Int), vs = [.ref a] ∧ SqL K H a (ns.map V.int) ∧ ns.length ≤ 63 ∧ ∀ H', Q (.bl true) H'
theorem ssb_cut {B : Nat} {X : Cx} {st : Stmt} {rest : List Stmt} {t u : TS} (h1 : Sb B X st t) (h2 : Ssb B X rest u) : Ssb B X (st :: rest) (C8.tCut t u) := ⟨fun pins s σ H D hB I h => by
  obtain ⟨Mid, hm, hu⟩ := h
  refine wpAny_execs_cons (thB hB (h1.run pins s σ H { D with nx := Mid } hB I hm) fun f s1 hB1 q => ?_)
  cases f with
  | next =>
    obtain ⟨σ1, H1, I1, q1⟩ := q
    exact h2.run pins s1 σ1 H1 D hB1 I1 (hu σ1 H1 q1)
  | ret v => exact q
  | brk => exact q
  | cont => exact q⟩
theorem dp_nats {K : PySem.W.Frag} {H : Hp} : ∀ ns : List Nat, DpAll K H (ns.map fun n => V.int (n : Nat)) (ns.map fun n => PyData.int (n : Nat))
  | [] => .nil
  | n :: ns => .cons (.int _) (dp_nats ns)
theorem lay_nats : ∀ ns : List Nat, PyData.canLayAll0 (ns.map fun n => PyData.int (n : Nat)) = true ∧ PyData.depthAll (ns.map fun n => PyData.int (n : Nat)) = 0
  | [] => ⟨rfl, rfl⟩
  | n :: ns => by
    obtain ⟨h1, h2⟩ := lay_nats ns
    rw [List.map_cons, PyData.canLayAll0, PyData.depthAll, h1, h2]
    exact ⟨rfl, rfl⟩
theorem shaped_nats (ns : List Nat) : SeqAt.shaped (.list (ns.map fun n => PyData.int (n : Nat))) = true := by
  obtain ⟨h1, h2⟩ := lay_nats ns
  unfold SeqAt.shaped
  rw [PyData.canLay0, PyData.depth, h1, h2]
  rfl
theorem fit_len (is : List Pc) (m : Mode) (fs : List Fact) : ((fitting is m fs).map fun n : Nat => (n : Int)).length ≤ 1000 := by
  rw [List.length_map]
  unfold fitting
  refine Nat.le_trans (List.length_filter_le _ _) ?_
  rw [List.length_map, List.length_range]
  decide
theorem fit_rise (is : List Pc) (m : Mode) (fs : List Fact) : ((fitting is m fs).map fun n : Nat => (n : Int)).Pairwise (· < ·) := by
  rw [List.pairwise_map]
  exact (rise_fitting is m fs).imp fun h => Int.ofNat_lt.mpr h
theorem abc_S : ("abc" : Str) = SX.S [97, 98, 99] := by decide +kernel
theorem ab_S : ("ab" : Str) = SX.S [97, 98] := by decide +kernel
theorem par_o : ("(" : Str) = SX.S [40] := by decide +kernel
theorem par_c : (")" : Str) = SX.S [41] := by decide +kernel
theorem pow_ok : CPow 10 30 := ⟨by decide, by decide, by decide⟩
theorem log_small {n : Nat} (h : n ≤ 10 ^ 30) : ((n : Nat) : Int).natAbs.log2 < 1920 := by
  rw [Int.natAbs_natCast]
  by_cases h0 : n = 0
  · subst h0; decide
  · refine Nat.lt_of_lt_of_le ((Nat.log2_lt h0).mpr (Nat.lt_of_le_of_lt h (show 10 ^ 30 < 2 ^ 100 by decide))) (by decide)
theorem law_scope : FnScope ["_law_script", "_law_k", "_law_pool_here", "_law_mode", "_law_capacity", "_law_part", "_law_program", "_law_target", "_law_tests_here", "_law_answers", "_law_other_here", "_law_told", "_law_facts", "_law_sizes", "_law_queue", "_law_at"] ["_law_script"] (defScope s_law) := ⟨rfl, rfl, rfl, by decide +kernel, rfl, by decide +kernel, by decide +kernel⟩
theorem c_law {B : Nat} (T : Tx K mg) (c_effect_of : C8.Cal P w K mg base 8 "effect_of" (sp_effect_of K) []) (c_fitting_capacities : CalB B P w K mg base 9 "fitting_capacities" sp_fitting_capacities) (c_identify : C8.Cal P w K mg base 8 "identify" (sp_identify K) []) (EF : EffC P w K mg base) (c_law_largest_right : C8.Cal P w K mg base 9 "_law_largest_right" sp_law_largest_right []) (c_law_other : C8.Cal P w K mg base 1 "_law_other" sp_law_other []) (c_law_pool : C8.Cal P w K mg base 1 "_law_pool" (sp_law_pool K) []) (c_law_result : C8.Cal P w K mg base 1 "_law_result" sp_law_result []) (c_law_sizes_right : C8.Cal P w K mg base 9 "_law_sizes_right" sp_law_sizes_right []) (c_law_steps : C8.Cal P w K mg base 2 "_law_steps" sp_law_steps []) (c_law_take : C8.Cal P w K mg base 1 "_law_take" sp_law_take []) (c_law_telling : C8.Cal P w K mg base 9 "_law_telling" sp_law_telling []) (c_law_tests : C8.Cal P w K mg base 1 "_law_tests" sp_law_tests []) (c_telling_length : C8.Cal P w K mg base 6 "telling_length" sp_telling_length []) : CalB B P w K mg base 10 "law" (sp_law K) := by
  obtain ⟨fd, F⟩ := T.d_law
  refine calB_of F T.m_law (F.bindsN (ps := ["_law_script"]) fun _ _ _ _ _ _ us hl => match us, hl with | [_], _ => rfl) law_scope (fun vs H Q E h => ?_) (fun cdv A outer s H vs Q E hr h => ?_)
  · obtain ⟨a, ns, rfl, _⟩ := h
    rfl
  · have sc := law_scope
    obtain ⟨fR, psR, FR, bR⟩ := EF.rows
    obtain ⟨fE, psE, FE, bE⟩ := EF.eq
    obtain ⟨fL, fdL, psL, dsL, FL, hmL, kpL, bL, dL⟩ := c_law_largest_right.ex
    obtain ⟨a, ns, rfl, ha, hn, k⟩ := h
    refine ⟨_, (ssb_cons (Sb.of (ps_if (pt_not (pt_val (pe_call0 (E := C8.E0) FL (hr.mono (by decide)) rfl hmL kpL bL dL C8.pass0)))
    (pss_one (ps_ret pe_bl))
    pss_nil))
    (ssb_cons (sb_for PassesOwn.never rfl (pi_range1 (by rfl) T.range_ (pa_cons (pe_callB (call_max2 rfl) (by rfl) T.max_ (by decide +kernel) (pa_cons pe_int (pa_cons (pe_callB (call_min2 rfl) (by rfl) T.min_ (by decide +kernel) (pa_cons pe_int (pa_cons (pe_callB call_len (by rfl) T.len_ (by decide +kernel) (pa_cons (pv 0) pa_nil)) pa_nil))) pa_nil))) pa_nil)) (pg_name (i := 1) sc.nd rfl (Or.inl rfl))
    (ssb_cons (Sb.of (ps_set (i := 2) sc.nd rfl (Or.inl rfl) (C8.pe_c c_law_pool hr (by decide) rfl (pa_cons (pv 0) (pa_cons (pv 1) pa_nil)))))
      (ssb_one (sb_for PassesOwn.never rfl (pi_list (pe_lst (pa_cons pe_str (pa_cons pe_str (pa_cons pe_str pa_nil))))) (pg_name (i := 3) sc.nd rfl (Or.inl rfl))
      (ssb_cut (Sb.of (ps_par (i := 4) (j := 5) (by rfl) sc.nd rfl rfl (by decide) rfl rfl (pa_cons (pe_op op_add pe_int (C8.pe_c c_law_take hr (by decide) rfl (pa_cons (pv 2) (pa_cons pe_int pa_nil)))) (pa_cons (C8.pe_c c_law_steps hr (by decide) rfl (pa_cons (pv 2) (pa_cons pe_int (pa_cons pe_str pa_nil)))) pa_nil)) (by rfl)))
        (ssb_cut (Sb.of (ps_set (i := 6) sc.nd rfl (Or.inl rfl) (pe_op op_add_str (pe_op op_add_str (pe_op op_add_str (pe_op op_add_str (C8.pe_c c_law_steps hr (by decide) rfl (pa_cons (pv 2) (pa_cons pe_int (pa_cons pe_str pa_nil)))) pe_str) (pv 5)) pe_str) (pe_callTy call_str_int (by rfl) T.str_ (by decide +kernel) (pa_cons (C8.pe_c c_law_take hr (by decide) rfl (pa_cons (pv 2) (pa_cons (pe_op op_pow pe_int pe_int) pa_nil))) pa_nil)))))
        (ssb_cut (Sb.of (ps_asg (pe_tup (pa_cons (C8.pe_c c_effect_of hr (by decide) rfl (pa_cons (pv 6) (pa_cons (pv 4) (pa_cons (pv 3) pa_nil)))) (pa_cons (C8.pe_c c_law_tests hr (by decide) rfl (pa_cons (pv 4) pa_nil)) pa_nil))) (pg_tup rfl (pgs_cons (pg_name (i := 7) sc.nd rfl (Or.inr rfl)) (pgs_cons (pg_name (i := 8) sc.nd rfl (Or.inr rfl)) pgs_nil)))))
        (ssb_cut (Sb.of (ps_set (i := 9) sc.nd rfl (Or.inr rfl) (pe_lc (own := [("_law_queue", 14)]) (g := gName 14) (tt := tYes) rfl sc.nd (pi_list (pv 8)) (blkOk_by (N := ["_law_script", "_law_k", "_law_pool_here", "_law_mode", "_law_capacity", "_law_part", "_law_program", "_law_target", "_law_tests_here", "_law_answers", "_law_other_here", "_law_told", "_law_facts", "_law_sizes", "_law_queue", "_law_at"]) (sc := defScope s_law) (by decide +kernel)) (fun _ _ _ _ _ => (pg_name (i := 14) sc.nd rfl (Or.inl rfl))) (fun _ _ _ _ _ => pts_nil) (fun _ _ _ _ _ => (C8.pe_c c_law_result hr (by decide) rfl (pa_cons (pe_prop (E := C8.E0) (pv 7) T.cls T.prop FR (hr.mono (by decide)) bR .nil C8.pass0 rfl) (pa_cons (pv 14) pa_nil)))))))
        (ssb_cut (Sb.of (ps_if (pt_not (pt_cmpR (op_eqO (E := C8.E0) FE (hr.mono (by decide)) T.meq.at_ T.meq.fn bE C8.pass0) (C8.pe_c c_identify hr (by decide) rfl (pa_cons (pv 4) (pa_cons (pv 9) pa_nil))) (pv 7) (nomark _)))
        (pss_one (ps_ret pe_bl))
        pss_nil))
        (ssb_cut (Sb.of (ps_set (i := 10) sc.nd rfl (Or.inr rfl) (C8.pe_c c_law_other hr (by decide) rfl (pa_cons (pe_prop (E := C8.E0) (pv 7) T.cls T.prop FR (hr.mono (by decide)) bR .nil C8.pass0 rfl) (pa_cons (C8.pe_c c_law_take hr (by decide) rfl (pa_cons (pv 2) (pa_cons (pe_op op_add (pv 4) pe_int) pa_nil))) pa_nil)))))
        (ssb_cut (Sb.of (ps_set (i := 11) sc.nd rfl (Or.inl rfl) (C8.pe_c c_identify hr (by decide) rfl (pa_cons (pv 4) (pa_cons (pe_lc (own := [("_law_queue", 14)]) (g := gName 14) (tt := tYes) rfl sc.nd (pi_list (pv 8)) (blkOk_by (N := ["_law_script", "_law_k", "_law_pool_here", "_law_mode", "_law_capacity", "_law_part", "_law_program", "_law_target", "_law_tests_here", "_law_answers", "_law_other_here", "_law_told", "_law_facts", "_law_sizes", "_law_queue", "_law_at"]) (sc := defScope s_law) (by decide +kernel)) (fun _ _ _ _ _ => (pg_name (i := 14) sc.nd rfl (Or.inl rfl))) (fun _ _ _ _ _ => pts_nil) (fun _ _ _ _ _ => (C8.pe_c c_law_result hr (by decide) rfl (pa_cons (pv 10) (pa_cons (pv 14) pa_nil))))) pa_nil)))))
        (ssb_cut (Sb.of (ps_if (PW.pt (pw_or (pt_not (pt_cmpR (op_eqO (E := C8.E0) FE (hr.mono (by decide)) T.meq.at_ T.meq.fn bE C8.pass0) (pv 11) (C8.pe_mk EF.mak hr (by decide) rfl (pa_cons (pv 4) (pa_cons (pv 10) pa_nil))) (nomark _))) (pw_or1 (pt_cmpR (op_eqO (E := C8.E0) FE (hr.mono (by decide)) T.meq.at_ T.meq.fn bE C8.pass0) (pv 11) (pv 7) (nomark _)))))
        (pss_one (ps_ret pe_bl))
        pss_nil))
        (ssb_cut (Sb.of (ps_setLc (i := 12) (own := [("_law_at", 15)]) (g := gName 15) (tt := tYes) (te := tTup (tCons (tOp (rIxL K) (tVar 8) (tVar 15)) (tCons (tOp (rIxL K) (tVar 9) (tVar 15)) tNil))) rfl sc.nd rfl rfl (sw_true rfl rfl rfl (by decide +kernel)) (pi_list (pe_lst (pa_cons pe_int (pa_cons (C8.pe_c c_law_take hr (by decide) rfl (pa_cons (pv 2) (pa_cons (pe_callB call_len (by rfl) T.len_ (by decide +kernel) (pa_cons (pv 8) pa_nil)) pa_nil))) pa_nil)))) (blkOk_by (N := ["_law_script", "_law_k", "_law_pool_here", "_law_mode", "_law_capacity", "_law_part", "_law_program", "_law_target", "_law_tests_here", "_law_answers", "_law_other_here", "_law_told", "_law_facts", "_law_sizes", "_law_queue", "_law_at"]) (sc := defScope s_law) (by decide +kernel)) (fun _ _ _ _ _ => (pg_name (i := 15) sc.nd rfl (Or.inl rfl))) (fun _ _ _ _ _ => pts_nil) (fun _ _ _ _ _ => (pe_tup (pa_cons (pe_ix ix_list (pv 8) (pv 15) (fun _ _ => rfl)) (pa_cons (pe_ix ix_list (pv 9) (pv 15) (fun _ _ => rfl)) pa_nil))))))
        (ssb_cut (sb_set (i := 13) sc.nd rfl (Or.inl rfl) (eb_c c_fitting_capacities hr (by decide) rfl (pa_cons (pv 6) (pa_cons (pv 3) (pa_cons (pv 12) pa_nil)))))
        (ssb_cut (Sb.of (ps_if (PW.pt (pw_or (pt_cmpR op_notIn_seq (pv 4) (pv 13) rfl) (pw_or1 (pt_cmpR (op_neD hr.units) (pv 13) (pe_callB (cr_sortedL rfl) (by rfl) T.sorted_ (by decide +kernel) (pa_cons (pe_callTy (cr_setL rfl) (by rfl) T.set_ (by decide +kernel) (pa_cons (pv 13) pa_nil)) pa_nil)) (nomark _)))))
        (pss_one (ps_ret pe_bl))
        pss_nil))
        (ssb_cut (Sb.of (ps_if (pt_not (pt_val (C8.pe_c c_law_sizes_right hr (by decide) rfl (pa_cons (pv 6) (pa_cons (pv 3) (pa_cons (pv 12) (pa_cons (pv 13) pa_nil)))))))
        (pss_one (ps_ret pe_bl))
        pss_nil))
        (ssb_cut (Sb.of (ps_set (i := 10) sc.nd rfl (Or.inr rfl) (pe_op op_add pe_int (pe_op op_mod (pv 4) pe_int))))
        (ssb_one (Sb.of (ps_if (pt_cmpR (op_neD hr.units) (C8.pe_c c_telling_length hr (by decide) rfl (pa_cons (pv 6) (pa_cons (pv 3) (pa_cons (pe_lst (pa_cons (pv 4) (pa_cons (pv 10) pa_nil))) pa_nil)))) (C8.pe_c c_law_telling hr (by decide) rfl (pa_cons (pv 6) (pa_cons (pv 3) (pa_cons (pv 4) (pa_cons (pv 10) pa_nil))))) (nomark _))
        (pss_one (ps_ret pe_bl))
        pss_nil))))))))))))))))))))
    (ssb_one (Sb.of (ps_ret pe_bl))))), ?_⟩
    refine ⟨rfl, fun Ha ea => ⟨_, rfl, ifF rfl ?_⟩⟩
    dsimp only [tNext]
    have hna : ((ns.map V.int).length : Int) ≤ 63 := by rw [List.length_map]; omega
    have ha0 : SqL K Ha a (ns.map V.int) := sq_ex ea ha
    generalize hN : (if (if ((ns.map V.int).length : Int) < 2 then ((ns.map V.int).length : Int) else 2) > 1 then (if ((ns.map V.int).length : Int) < 2 then ((ns.map V.int).length : Int) else 2) else 1) = N
    have hN1 : 1 ≤ N ∧ N ≤ 2 := by rw [← hN]; split <;> split <;> omega
    refine tfor (walk_range (lo := 0) (n := N.toNat)) (fun R r => ⟨_, rfl, _, _, rfl, .inl ⟨_, ha0, rfl⟩, _, _, rfl, _, _, rfl, _, rfl, by rw [hN]; omega, by rw [hN]; omega, by rw [hN]; exact r⟩) (fun i σ H' => ∃ o1 o2 o3 o4 o5 o6 o7 o8 o9 o10 o11 o12 o13 o14 o15 : Option V, σ = [some (.ref a), o1, o2, o3, o4, o5, o6, o7, o8, o9, o10, o11, o12, o13, o14, o15] ∧ SqL K H' a (ns.map V.int)) ⟨none, none, none, none, none, none, none, none, none, none, none, none, none, none, none, rfl, ha0⟩ (fun _ _ _ _ _ => trivial) ?_ ?_
    · rintro i x σ H1 H1' hi ⟨o1, o2, o3, o4, o5, o6, o7, o8, o9, o10, o11, o12, o13, o14, o15, rfl, ha1⟩ ⟨rfl, rfl⟩
      refine ⟨_, rfl, _, rfl, a, ns, 0 + (i : Int), rfl, ha1, hn, ⟨by omega, by omega⟩, fun p H2 e2 hp P2 => ?_⟩
      refine ⟨by rw [sizeLine_eq]; decide, fun L hL => ⟨L, rfl, ⟨_, .inl (.inl upd_same)⟩, ?_⟩⟩
      generalize hH3 : upd H2 L (.lst [.str "oldest", .str "newest", .str "strict"]) = H3
      have e3 : Ex H2 H3 := by rw [← hH3]; exact Ex.new hL
      have hLp : L ≠ p := fun z => by
        obtain ⟨_, _, q, _⟩ := P2
        rw [← z, hL] at q
        cases q
      have hL3 : H3 L = some (.lst [.str "oldest", .str "newest", .str "strict"]) := by rw [← hH3]; exact upd_same
      have P3 : PoolV H3 p := P2.mono e3
      generalize hkk : (V.int (0 + (i : Int))) = kk
      refine for_it (walk_list (K := K) (a := L) (xs := [.str "oldest", .str "newest", .str "strict"])) (fun j σ H' => ∃ o3 o4 o5 o6 o7 o8 o9 o10 o11 o12 o13 o14 o15 : Option V, σ = [some (.ref a), some kk, some (.ref p), o3, o4, o5, o6, o7, o8, o9, o10, o11, o12, o13, o14, o15] ∧ ExB p H3 H' ∧ PoolV H' p) ⟨o3, o4, o5, o6, o7, o8, o9, o10, o11, o12, o13, o14, o15, by rw [← hkk]; rfl, ExB.refl _, P3⟩ ?_ ?_ ?_
      · rintro j σ H' hj ⟨o3, o4, o5, o6, o7, o8, o9, o10, o11, o12, o13, o14, o15, rfl, e, _⟩
        exact .inl (.inl (e _ _ hLp hL3))
      · rintro j x σ H4 H4' hj ⟨o3, o4, o5, o6, o7, o8, o9, o10, o11, o12, o13, o14, o15, rfl, e4, P4⟩ ⟨rfl, hx⟩
        obtain ⟨m, rfl⟩ : ∃ m : Mode, x = .str m.s := by
          match j, hx with
          | 0, hx => exact ⟨.oldest, (Option.some.inj hx).symm⟩
          | 1, hx => exact ⟨.newest, (Option.some.inj hx).symm⟩
          | 2, hx => exact ⟨.strict, (Option.some.inj hx).symm⟩
        refine ⟨fun σ' H' => ∃ (c : Nat) (pt : List Nat) (o6 o7 o8 o9 o10 o11 o12 o13 o14 o15 : Option V), σ' = [some (.ref a), some (kk), some (.ref p), some (.str m.s), some (.int (c : Int)), some (.str (SX.S pt)), o6, o7, o8, o9, o10, o11, o12, o13, o14, o15] ∧ ExB p H3 H' ∧ PoolV H' p ∧ (1 ≤ c ∧ c ≤ 12) ∧ pt.length ≤ 5 ∧ ∀ x ∈ pt, Step x, ?_, ?_⟩
        · refine ⟨_, rfl, p, 12, rfl, P4, by decide, by decide, fun n H5 e5 P5 n0 n1 => ?_⟩
          obtain ⟨n, rfl⟩ := Int.eq_ofNat_of_zero_le n0
          refine ⟨1, _, rfl, rfl, _, rfl, p, 5, [97, 98, 99], by rw [abc_S]; rfl, P5, by decide, by decide, by decide, fun t H6 e6 P6 l6 s6 => ⟨_, _, rfl, ?_⟩⟩
          exact ⟨1 + n, t, o6, o7, o8, o9, o10, o11, o12, o13, o14, o15, by rw [show ((1 + n : Nat) : Int) = 1 + (n : Int) by omega]; rfl, (e4.trans e5).trans e6, P6, ⟨by omega, by omega⟩, l6, s6⟩
        clear P4 e4
        rintro σ H4 ⟨c, pt, o6, o7, o8, o9, o10, o11, o12, o13, o14, o15, rfl, e4, P4, hc, hl, hs⟩
        refine ⟨fun σ' H' => ∃ (c : Nat) (pt : List Nat) (pr : Prg) (o7 o8 o9 o10 o11 o12 o13 o14 o15 : Option V), σ' = [some (.ref a), some (kk), some (.ref p), some (.str m.s), some (.int (c : Int)), some (.str (SX.S pt)), some (.str (SX.S pr.text)), o7, o8, o9, o10, o11, o12, o13, o14, o15] ∧ ExB p H3 H' ∧ PoolV H' p ∧ (1 ≤ c ∧ c ≤ 12) ∧ pr.Ok, ?_, ?_⟩
        · refine ⟨_, rfl, p, 5, [97, 98], by rw [ab_S]; rfl, P4, by decide, by decide, by decide, fun t H5 e5 P5 l5 s5 => ?_⟩
          refine ⟨_, _, rfl, rfl, by rw [par_o]; exact Sle2 (by omega) (by decide), _, rfl, _, _, rfl, rfl, by rw [par_o, Scat]; exact Sle2 (by rw [List.length_append]; exact (show t.length + 1 ≤ 100000 by omega)) (by omega), ?_⟩
          refine ⟨_, _, rfl, rfl, by rw [par_o, par_c, Scat, Scat]; exact Sle2 (by rw [List.length_append, List.length_append]; exact (show t.length + 1 + pt.length ≤ 100000 by omega)) (by decide), ?_⟩
          refine ⟨_, rfl, _, _, rfl, rfl, pow_ok, p, _, rfl, P5, by decide, by decide, fun n H6 e6 P6 n0 n1 => ?_⟩
          obtain ⟨n, rfl⟩ := Int.eq_ofNat_of_zero_le n0
          have hn30 : n ≤ 10 ^ 30 := by
            have z : (n : Int) < 10 ^ 30 := n1
            omega
          refine ⟨_, rfl, log_small hn30, ?_⟩
          have ok : Prg.Ok (t, some (pt, n)) := ⟨s5, by show t.length ≤ 1000; omega, fun s k e => by cases e; exact ⟨hs, by omega, hn30⟩⟩
          have etx : SX.S t ++ "(" ++ SX.S pt ++ ")" ++ Str.ofString (toString ((n : Nat) : Int)) = SX.S (Prg.text (t, some (pt, n))) := by
            rw [par_o, par_c, SX.num_S, Scat, Scat, Scat, Scat]
            refine congrArg SX.S ?_
            show t ++ [40] ++ pt ++ [41] ++ TL.numL n = t ++ (40 :: (pt ++ 41 :: TL.numL n))
            simp
          refine ⟨_, _, rfl, rfl, ?_, ?_⟩
          · rw [par_o, par_c, SX.num_S, Scat, Scat, Scat]
            exact Sle2 (by simp only [List.length_append, List.length_singleton]; omega) (by have := num_len hn30; omega)
          · exact ⟨c, pt, (t, some (pt, n)), o7, o8, o9, o10, o11, o12, o13, o14, o15, by rw [← etx]; rfl, (e4.trans e5).trans e6, P6, hc, ok⟩
        clear P4 e4 hl hs
        rintro σ H4 ⟨c, pt, pr, o7, o8, o9, o10, o11, o12, o13, o14, o15, rfl, e4, P4, hc, ok⟩
        refine ⟨fun σ' H' => ∃ (c : Nat) (pt : List Nat) (pr : Prg) (v1 : V) (t : Addr) (o9 o10 o11 o12 o13 o14 o15 : Option V), σ' = [some (.ref a), some (kk), some (.ref p), some (.str m.s), some (.int (c : Int)), some (.str (SX.S pt)), some (.str (SX.S pr.text)), some (v1), some (.ref t), o9, o10, o11, o12, o13, o14, o15] ∧ ExB p H3 H' ∧ PoolV H' p ∧ (1 ≤ c ∧ c ≤ 12) ∧ pr.Ok ∧ EffV (EC K) H' v1 (rowsOf pr.its c m) ∧ H' t = some (.lst ((tests c).map fun q => V.str (SX.S q))), ?_, ?_⟩
        · refine ⟨_, rfl, _, rfl, _, rfl, pr, c, m, rfl, ok, ⟨by omega, by omega⟩, fun v1 H5 e5 q5 => ?_⟩
          refine ⟨_, rfl, c, rfl, hc.1, by omega, fun t H6 e6 ht => ?_⟩
          refine ⟨two_size, fun q hq => ⟨q, _, rfl, .inl (.inl upd_same), rfl, v1, _, rfl, _, _, rfl, rfl, ?_⟩⟩
          have eq6 : Ex H6 (upd H6 q (.tup [v1, .ref t])) := Ex.new hq
          exact ⟨c, pt, pr, v1, t, o9, o10, o11, o12, o13, o14, o15, rfl, ((e4.trans (ExB.of e5)).trans (ExB.of e6)).trans (ExB.of eq6), P4.mono ((e5.trans e6).trans eq6), hc, ok, q5.t (ExT.of (e6.trans eq6)), eq6 _ _ ht⟩
        clear P4 e4
        rintro σ H4 ⟨c, pt, pr, v1, t, o9, o10, o11, o12, o13, o14, o15, rfl, e4, P4, hc, ok, q1, ht⟩
        have gr := goodRows_of (C := c) (m := m) hc.1 (its_ok ok)
        have hlt : ((tests c).map fun q => V.str (SX.S q)).length = (tests c).length := List.length_map ..
        have hl200 := tests_len c
        refine ⟨fun σ' H' => ∃ (c : Nat) (pt : List Nat) (pr : Prg) (v1 : V) (t : Addr) (an : Addr) (o10 o11 o12 o13 o14 o15 : Option V), σ' = [some (.ref a), some (kk), some (.ref p), some (.str m.s), some (.int (c : Int)), some (.str (SX.S pt)), some (.str (SX.S pr.text)), some (v1), some (.ref t), some (.ref an), o10, o11, o12, o13, o14, o15] ∧ ExB p H3 H' ∧ PoolV H' p ∧ (1 ≤ c ∧ c ≤ 12) ∧ pr.Ok ∧ EffV (EC K) H' v1 (rowsOf pr.its c m) ∧ H' t = some (.lst ((tests c).map fun q => V.str (SX.S q))) ∧ AnsV H' (.ref an) (answers (rowsOf pr.its c m) c) ∧ an ≠ p, ?_, ?_⟩
        · obtain ⟨x1, dx1, t1, rfl, hx1, ht1⟩ := q1
          refine ⟨_, rfl, t, rfl, ⟨_, .inl (.inl ht)⟩, fun D hD => ?_⟩
          refine lc_gen (walk_list (K := K) (a := t) (xs := (tests c).map fun q => V.str (SX.S q))) hD (by rw [hlt, hl200]; omega) (fun H' e => .inl (.inl (e _ _ ht))) (fun i H x H' y => by rw [y.1]; exact Ex.refl _) (fun _ => true) (fun i y H => ∃ q, (tests c)[i]? = some q ∧ y = optV (resultOf (rowsOf pr.its c m) q)) (fun i y H H' e q => q) ?_ fun ys H5 e5 hy hp2 => ?_
          · intro i x H7 H8 Acc Nn hi e7 e8 y ka kn
            obtain ⟨rfl, hx⟩ := y
            rw [List.getElem?_map] at hx
            obtain ⟨q, hq, rfl⟩ := Option.map_eq_some_iff.mp hx
            refine ⟨rfl, tyes ?_⟩
            refine ⟨_, rfl, x1, dx1, _, rfl, e7 _ _ hx1, x1, dx1, _, t1, rfl, e7 _ _ hx1, rfl, ?_⟩
            exact ⟨_, rfl, t1, _, q, c, rfl, ht1.mono e7, gr, by omega, (tests_mem (List.mem_of_getElem? hq)).1, fun H9 e9 => ka rfl _ _ e9 ⟨q, hq, rfl⟩⟩
          · rw [hlt] at hp2
            have hDp : D ≠ p := fun z => by
              obtain ⟨_, _, q, _⟩ := P4
              rw [← z, hD] at q
              cases q
            exact ⟨c, pt, pr, _, t, D, o10, o11, o12, o13, o14, o15, rfl, e4.trans (ExB.of e5), P4.mono e5, hc, ok, ⟨x1, dx1, t1, rfl, e5 _ _ hx1, ht1.mono e5⟩, e5 _ _ ht, answers_of hy hp2, hDp⟩
        clear P4 e4 q1 ht
        rintro σ H4 ⟨c, pt, pr, v1, t, an, o10, o11, o12, o13, o14, o15, rfl, e4, P4, hc, ok, q1, ht, ha, hap⟩
        clear gr hlt hl200
        have gr := goodRows_of (C := c) (m := m) hc.1 (its_ok ok)
        have hlt : ((tests c).map fun q => V.str (SX.S q)).length = (tests c).length := List.length_map ..
        have hl200 := tests_len c
        refine ⟨fun σ' H' => ∃ (c : Nat) (pt : List Nat) (pr : Prg) (v1 : V) (t : Addr) (an : Addr) (o10 o11 o12 o13 o14 o15 : Option V), σ' = [some (.ref a), some (kk), some (.ref p), some (.str m.s), some (.int (c : Int)), some (.str (SX.S pt)), some (.str (SX.S pr.text)), some (v1), some (.ref t), some (.ref an), o10, o11, o12, o13, o14, o15] ∧ ExB p H3 H' ∧ PoolV H' p ∧ (1 ≤ c ∧ c ≤ 12) ∧ pr.Ok ∧ EffV (EC K) H' v1 (rowsOf pr.its c m) ∧ H' t = some (.lst ((tests c).map fun q => V.str (SX.S q))) ∧ AnsV H' (.ref an) (answers (rowsOf pr.its c m) c) ∧ an ≠ p, ?_, ?_⟩
        · refine ⟨_, rfl, _, rfl, c, .ref an, _, rfl, ha, gr, ⟨by omega, by omega⟩, fun v5 H5 e5 q5 => ?_⟩
          obtain ⟨x1, dx1, t1, rfl, hx1, ht1⟩ := q1
          obtain ⟨x5, dx5, t5, rfl, hx5, ht5⟩ := q5
          have hx1' := e5 _ _ hx1
          refine ⟨_, rfl, x5, x1, dx5, dx1, _, _, rfl, rfl, hx5, hx1', _, _, _, _, rfl, ⟨x5, dx5, t5, rfl, hx5, ht5⟩, ⟨x1, dx1, t1, rfl, hx1', ht1.mono e5⟩, gr.allSigns, gr.allSigns, fun H6 e6 => ?_⟩
          refine ⟨_, rfl, ifF (by rw [decide_eq_true rfl]; rfl) ?_⟩
          exact ⟨c, pt, pr, _, t, an, o10, o11, o12, o13, o14, o15, rfl, (e4.trans (ExB.of e5)).trans (ExB.of e6), P4.mono (e5.trans e6), hc, ok, ⟨x1, dx1, t1, rfl, e6 _ _ hx1', ht1.mono (e5.trans e6)⟩, (e5.trans e6) _ _ ht, ha.mono (e5.trans e6), hap⟩
        clear P4 e4 q1 ht ha hap
        rintro σ H4 ⟨c, pt, pr, v1, t, an, o10, o11, o12, o13, o14, o15, rfl, e4, P4, hc, ok, q1, ht, ha, hap⟩
        clear gr hlt hl200
        have gr := goodRows_of (C := c) (m := m) hc.1 (its_ok ok)
        have hlt : ((tests c).map fun q => V.str (SX.S q)).length = (tests c).length := List.length_map ..
        have hl200 := tests_len c
        refine ⟨fun σ' H' => ∃ (c : Nat) (pt : List Nat) (pr : Prg) (v1 : V) (t : Addr) (an : Addr) (vo : V) (n : Nat) (o11 o12 o13 o14 o15 : Option V), σ' = [some (.ref a), some (kk), some (.ref p), some (.str m.s), some (.int (c : Int)), some (.str (SX.S pt)), some (.str (SX.S pr.text)), some (v1), some (.ref t), some (.ref an), some (vo), o11, o12, o13, o14, o15] ∧ ExB p H3 H' ∧ PoolV H' p ∧ (1 ≤ c ∧ c ≤ 12) ∧ pr.Ok ∧ EffV (EC K) H' v1 (rowsOf pr.its c m) ∧ H' t = some (.lst ((tests c).map fun q => V.str (SX.S q))) ∧ AnsV H' (.ref an) (answers (rowsOf pr.its c m) c) ∧ an ≠ p ∧ TabV H' vo (other (rowsOf pr.its c m) n) ∧ n ≤ c, ?_, ?_⟩
        · have q1c := q1
          obtain ⟨x1, dx1, t1, rfl, hx1, ht1⟩ := q1
          refine ⟨_, rfl, x1, dx1, _, rfl, hx1, x1, dx1, _, t1, rfl, hx1, rfl, ?_⟩
          refine ⟨_, rfl, _, rfl, _, _, rfl, rfl, p, (c : Int) + 1, rfl, P4, by omega, by omega, fun n H5 e5 P5 n0 n1 => ?_⟩
          obtain ⟨n, rfl⟩ := Int.eq_ofNat_of_zero_le n0
          have eT := e5.t P4
          refine ⟨t1, _, n, c, rfl, ht1.t eT, gr, by omega, by omega, fun vo H6 e6 q6 => ?_⟩
          obtain ⟨a0, ea0, ha0'⟩ := ha
          cases ea0
          exact ⟨c, pt, pr, _, t, an, vo, n, o11, o12, o13, o14, o15, rfl, (e4.trans e5).trans (ExB.of e6), P5.mono e6, hc, ok, (q1c.t eT).t (ExT.of e6), e6 _ _ (e5 _ _ (strs_ne P4 ht) ht), ⟨an, rfl, e6 _ _ (e5 _ _ hap ha0')⟩, hap, q6, by omega⟩
        clear P4 e4 q1 ht ha hap
        rintro σ H4 ⟨c, pt, pr, v1, t, an, vo, n, o11, o12, o13, o14, o15, rfl, e4, P4, hc, ok, q1, ht, ha, hap, qo, hnc⟩
        clear gr hlt hl200
        have gr := goodRows_of (C := c) (m := m) hc.1 (its_ok ok)
        have hlt : ((tests c).map fun q => V.str (SX.S q)).length = (tests c).length := List.length_map ..
        have hl200 := tests_len c
        have go := other_good gr hnc
        refine ⟨fun σ' H' => ∃ (c : Nat) (pt : List Nat) (pr : Prg) (v1 : V) (t : Addr) (an : Addr) (vo : V) (n : Nat) (vt : V) (o12 o13 o14 o15 : Option V), σ' = [some (.ref a), some (kk), some (.ref p), some (.str m.s), some (.int (c : Int)), some (.str (SX.S pt)), some (.str (SX.S pr.text)), some (v1), some (.ref t), some (.ref an), some (vo), some (vt), o12, o13, o14, o15] ∧ ExB p H3 H' ∧ PoolV H' p ∧ (1 ≤ c ∧ c ≤ 12) ∧ pr.Ok ∧ EffV (EC K) H' v1 (rowsOf pr.its c m) ∧ H' t = some (.lst ((tests c).map fun q => V.str (SX.S q))) ∧ AnsV H' (.ref an) (answers (rowsOf pr.its c m) c) ∧ an ≠ p ∧ TabV H' vo (other (rowsOf pr.its c m) n) ∧ n ≤ c ∧ EffV (EC K) H' vt (other (rowsOf pr.its c m) n), ?_, ?_⟩
        · have qoc := qo
          refine ⟨_, rfl, _, rfl, t, rfl, ⟨_, .inl (.inl ht)⟩, fun D hD => ?_⟩
          refine lc_gen (walk_list (K := K) (a := t) (xs := (tests c).map fun q => V.str (SX.S q))) hD (by rw [hlt, hl200]; omega) (fun H' e => .inl (.inl (e _ _ ht))) (fun i H x H' y => by rw [y.1]; exact Ex.refl _) (fun _ => true) (fun i y H => ∃ q, (tests c)[i]? = some q ∧ y = optV (resultOf (other (rowsOf pr.its c m) n) q)) (fun i y H H' e q => q) ?_ fun ys H5 e5 hy hp2 => ?_
          · intro i x H7 H8 Acc Nn hi e7 e8 y ka kn
            obtain ⟨rfl, hx⟩ := y
            rw [List.getElem?_map] at hx
            obtain ⟨q, hq, rfl⟩ := Option.map_eq_some_iff.mp hx
            refine ⟨rfl, tyes ?_⟩
            exact ⟨_, rfl, _, rfl, vo, _, q, c, rfl, qo.mono e7, go, by omega, (tests_mem (List.mem_of_getElem? hq)).1, fun H9 e9 => ka rfl _ _ e9 ⟨q, hq, rfl⟩⟩
          · rw [hlt] at hp2
            refine ⟨c, .ref D, _, rfl, answers_of hy hp2, go, ⟨by omega, by omega⟩, fun vt H6 e6 q6 => ?_⟩
            exact ⟨c, pt, pr, v1, t, an, vo, n, vt, o12, o13, o14, o15, rfl, (e4.trans (ExB.of e5)).trans (ExB.of e6), P4.mono (e5.trans e6), hc, ok, q1.t (ExT.of (e5.trans e6)), (e5.trans e6) _ _ ht, ha.mono (e5.trans e6), hap, qo.mono (e5.trans e6), hnc, q6⟩
        clear P4 e4 q1 ht ha hap qo hnc go
        rintro σ H4 ⟨c, pt, pr, v1, t, an, vo, n, vt, o12, o13, o14, o15, rfl, e4, P4, hc, ok, q1, ht, ha, hap, qo, hnc, qt⟩
        clear gr hlt hl200
        have gr := goodRows_of (C := c) (m := m) hc.1 (its_ok ok)
        have hlt : ((tests c).map fun q => V.str (SX.S q)).length = (tests c).length := List.length_map ..
        have hl200 := tests_len c
        have go := other_good gr hnc
        refine ⟨fun σ' H' => ∃ (c : Nat) (pt : List Nat) (pr : Prg) (v1 : V) (t : Addr) (an : Addr) (o10 o11 o12 o13 o14 o15 : Option V), σ' = [some (.ref a), some (kk), some (.ref p), some (.str m.s), some (.int (c : Int)), some (.str (SX.S pt)), some (.str (SX.S pr.text)), some (v1), some (.ref t), some (.ref an), o10, o11, o12, o13, o14, o15] ∧ ExB p H3 H' ∧ PoolV H' p ∧ (1 ≤ c ∧ c ≤ 12) ∧ pr.Ok ∧ EffV (EC K) H' v1 (rowsOf pr.its c m) ∧ H' t = some (.lst ((tests c).map fun q => V.str (SX.S q))) ∧ AnsV H' (.ref an) (answers (rowsOf pr.its c m) c) ∧ an ≠ p, ?_, ?_⟩
        · obtain ⟨xt, dxt, tt, rfl, hxt, htt⟩ := qt
          obtain ⟨x1, dx1, t1, rfl, hx1, ht1⟩ := q1
          refine ⟨_, rfl, _, rfl, _, rfl, ?_⟩
          intro x dx hx hdx hne
          refine ⟨x, dx, vo, other (rowsOf pr.its c m) n, c, rfl, upd_same, .inl (qo.mono (made_ex hx hdx hne)), go, ⟨by omega, by omega⟩, fun H5 t5 h5 hxx ht5 => ⟨rfl, ?_⟩⟩
          have e5 : Ex H4 H5 := make_ex (Ex.refl _) hx hdx h5
          refine ⟨xt, x, dxt, dx, _, _, rfl, rfl, e5 _ _ hxt, hxx, _, _, _, _, rfl, ⟨xt, dxt, tt, rfl, e5 _ _ hxt, htt.mono e5⟩, ⟨x, dx, t5, rfl, hxx, ht5⟩, go.allSigns, go.allSigns, fun H6 e6 => ?_⟩
          have e46 := e5.trans e6
          refine ⟨_, rfl, ifF (by rw [decide_eq_true rfl]; rfl) ?_⟩
          refine ⟨_, rfl, _, rfl, xt, x1, dxt, dx1, _, _, rfl, rfl, e46 _ _ hxt, e46 _ _ hx1, _, _, _, _, rfl, ⟨xt, dxt, tt, rfl, e46 _ _ hxt, htt.mono e46⟩, ⟨x1, dx1, t1, rfl, e46 _ _ hx1, ht1.mono e46⟩, go.allSigns, gr.allSigns, fun H7 e7 => ?_⟩
          refine ⟨_, rfl, ifF (decide_eq_false (other_ne gr hnc)) ?_⟩
          have e47 := e46.trans e7
          exact ⟨c, pt, pr, _, t, an, some vo, _, o12, o13, o14, o15, rfl, e4.trans (ExB.of e47), P4.mono e47, hc, ok, ⟨x1, dx1, t1, rfl, e47 _ _ hx1, ht1.mono e47⟩, e47 _ _ ht, ha.mono e47, hap⟩
        clear P4 e4 q1 ht ha hap qo hnc go qt
        rintro σ H4 ⟨c, pt, pr, v1, t, an, o10, o11, o12, o13, o14, o15, rfl, e4, P4, hc, ok, q1, ht, ha, hap⟩
        clear gr hlt hl200
        have gr := goodRows_of (C := c) (m := m) hc.1 (its_ok ok)
        have hlt : ((tests c).map fun q => V.str (SX.S q)).length = (tests c).length := List.length_map ..
        have hl200 := tests_len c
        refine ⟨fun σ' H' => ∃ (c : Nat) (pt : List Nat) (pr : Prg) (v1 : V) (t : Addr) (an : Addr) (fa : Addr) (fs : List Fact) (o10 o11 o13 o14 o15 : Option V), σ' = [some (.ref a), some (kk), some (.ref p), some (.str m.s), some (.int (c : Int)), some (.str (SX.S pt)), some (.str (SX.S pr.text)), some (v1), some (.ref t), some (.ref an), o10, o11, some (.ref fa), o13, o14, o15] ∧ ExB p H3 H' ∧ PoolV H' p ∧ (1 ≤ c ∧ c ≤ 12) ∧ pr.Ok ∧ FactsV H' (.ref fa) fs ∧ fs.length ≤ 2 ∧ (∀ f ∈ fs, GoodFact f) ∧ factGood pr.its c m fs, ?_, ?_⟩
        · refine ⟨_, rfl, _, rfl, _, _, rfl, .inl ⟨_, .inl (.inl ht), rfl⟩, p, _, rfl, P4, by rw [hlt, hl200]; omega, by rw [hlt, hl200]; omega, fun n H5 e5 P5 n0 n1 => ?_⟩
          obtain ⟨n, rfl⟩ := Int.eq_ofNat_of_zero_le n0
          rw [hlt] at n1
          refine ⟨two_size, fun Lf hLf => ⟨Lf, rfl, ⟨_, .inl (.inl upd_same)⟩, fun D hD => ?_⟩⟩
          generalize hH6 : upd H5 Lf (.lst [.int 0, .int (n : Int)]) = H6 at hD
          have e56 : Ex H5 H6 := by rw [← hH6]; exact Ex.new hLf
          have hL6 : H6 Lf = some (.lst [.int 0, .int (n : Int)]) := by rw [← hH6]; exact upd_same
          have ht6 := e56 _ _ (e5 _ _ (strs_ne P4 ht) ht)
          obtain ⟨a0, ea0, ha0⟩ := ha
          cases ea0
          have ha6 := e56 _ _ (e5 _ _ hap ha0)
          refine lc_gen (walk_list (K := K) (a := Lf) (xs := [.int 0, .int (n : Int)])) hD (show 2 ≤ 100000 by decide) (fun H' e => .inl (.inl (e _ _ hL6))) (fun i H x H' y => by rw [y.1]; exact Ex.refl _) (fun _ => true) (fun i y H => ∃ q, q ∈ tests c ∧ FactV H y (q, resultOf (rowsOf pr.its c m) q)) (fun i y H H' e q => by
            obtain ⟨q, h1, b, h2, h3⟩ := q
            exact ⟨q, h1, b, h2, e b _ (fun _ z => nomatch z) h3⟩) ?_ fun ys H7 e7 hy hp2 => ?_
          · intro i x H8 H9 Acc Nn hi e8 e9 y ka kn
            obtain ⟨rfl, hx⟩ := y
            obtain ⟨j, rfl, hj⟩ : ∃ j : Nat, x = .int (j : Int) ∧ j < (tests c).length := by
              match i, hx with
              | 0, hx => exact ⟨0, (Option.some.inj hx).symm, by omega⟩
              | 1, hx => exact ⟨n, (Option.some.inj hx).symm, by omega⟩
            have tj : (tests c)[j]? = some (tests c)[j] := List.getElem?_eq_getElem hj
            refine ⟨rfl, tyes ⟨_, rfl, _, rfl, t, _, _, _, rfl, rfl, .inl (.inl (e8 _ _ ht6)), at_of (j := j) (by omega) (by rw [List.getElem?_map, tj]; rfl), ?_⟩⟩
            refine ⟨_, rfl, _, rfl, an, _, _, _, rfl, rfl, .inl (.inl (e8 _ _ ha6)), at_of (j := j) (by omega) (by unfold answers; rw [List.getElem?_map, List.getElem?_map, tj]; rfl), ?_⟩
            exact ⟨two_size, fun q hq => ka rfl _ _ (Ex.new hq) ⟨_, List.getElem_mem hj, q, rfl, upd_same⟩⟩
          · rw [filt_all] at hp2
            have hlen : ys.length = 2 := by rw [← Paired.len hp2]; rfl
            have good : ∀ q ∈ tests c, GoodFact (q, resultOf (rowsOf pr.its c m) q) ∧ q.length ≤ c := fun q hq => by
              obtain ⟨h1, h2⟩ := tests_mem hq
              refine ⟨⟨by show q.length ≤ 100; omega, h2, fun r hr => ?_⟩, h1⟩
              obtain ⟨h3, h4⟩ := result_good gr h1 h2 hr
              exact ⟨by omega, h4⟩
            match ys, hlen, hp2, hy with
            | [y0, y1], _, .cons ⟨f0, m0, r0⟩ (.cons ⟨f1, m1, r1⟩ .nil), hy =>
              refine ⟨c, pt, pr, v1, t, an, D, [(f0, resultOf (rowsOf pr.its c m) f0), (f1, resultOf (rowsOf pr.its c m) f1)], o10, o11, o13, o14, o15, rfl, (e4.trans e5).trans (ExB.of (e56.trans e7)), P5.mono (e56.trans e7), hc, ok, ⟨D, _, rfl, hy, .cons r0 (.cons r1 .nil)⟩, (show 2 ≤ 2 by decide), fun f hf => ?_, fun f hf => ?_⟩
              · rcases List.mem_cons.mp hf with rfl | hf
                · exact (good _ m0).1
                · cases List.mem_singleton.mp hf
                  exact (good _ m1).1
              · rcases List.mem_cons.mp hf with rfl | hf
                · exact ⟨(good _ m0).2, rfl⟩
                · cases List.mem_singleton.mp hf
                  exact ⟨(good _ m1).2, rfl⟩
        clear P4 e4 q1 ht ha hap gr hlt hl200
        rintro σ H4 ⟨c, pt, pr, v1, t, an, fa, fs, o10, o11, o13, o14, o15, rfl, e4, P4, hc, ok, hfs, hfl, hgf, hfg⟩
        refine ⟨fun σ' H' => ∃ (c : Nat) (pt : List Nat) (pr : Prg) (v1 : V) (t : Addr) (an : Addr) (fa : Addr) (fs : List Fact) (sa : Addr) (o10 o11 o14 o15 : Option V), σ' = [some (.ref a), some (kk), some (.ref p), some (.str m.s), some (.int (c : Int)), some (.str (SX.S pt)), some (.str (SX.S pr.text)), some (v1), some (.ref t), some (.ref an), o10, o11, some (.ref fa), some (.ref sa), o14, o15] ∧ ExB p H3 H' ∧ PoolV H' p ∧ (1 ≤ c ∧ c ≤ 12) ∧ pr.Ok ∧ FactsV H' (.ref fa) fs ∧ fs.length ≤ 2 ∧ (∀ f ∈ fs, GoodFact f) ∧ factGood pr.its c m fs ∧ H' sa = some (.lst ((fitting pr.its m fs).map fun n => V.int (n : Nat))), ?_, ?_⟩
        · refine ⟨_, rfl, _, rfl, _, rfl, pr, m, .ref fa, fs, rfl, ok, five_ok _, hfs, hgf, by omega, fun sa H5 e5 hsa => ?_⟩
          exact ⟨c, pt, pr, v1, t, an, fa, fs, sa, o10, o11, o14, o15, rfl, e4.trans (ExB.of e5), P4.mono e5, hc, ok, hfs.mono e5, hfl, hgf, hfg, hsa⟩
        clear P4 e4 hfs hfl hgf hfg
        rintro σ H4 ⟨c, pt, pr, v1, t, an, fa, fs, sa, o10, o11, o14, o15, rfl, e4, P4, hc, ok, hfs, hfl, hgf, hfg, hsa⟩
        refine ⟨fun σ' H' => ∃ (c : Nat) (pt : List Nat) (pr : Prg) (v1 : V) (t : Addr) (an : Addr) (fa : Addr) (fs : List Fact) (sa : Addr) (o10 o11 o14 o15 : Option V), σ' = [some (.ref a), some (kk), some (.ref p), some (.str m.s), some (.int (c : Int)), some (.str (SX.S pt)), some (.str (SX.S pr.text)), some (v1), some (.ref t), some (.ref an), o10, o11, some (.ref fa), some (.ref sa), o14, o15] ∧ ExB p H3 H' ∧ PoolV H' p ∧ (1 ≤ c ∧ c ≤ 12) ∧ pr.Ok ∧ FactsV H' (.ref fa) fs ∧ fs.length ≤ 2 ∧ (∀ f ∈ fs, GoodFact f) ∧ factGood pr.its c m fs ∧ H' sa = some (.lst ((fitting pr.its m fs).map fun n => V.int (n : Nat))), ?_, ?_⟩
        · have hmem : c ∈ fitting pr.its m fs := (mem_fitting (its_ok ok) c).mpr ⟨⟨by omega, by omega⟩, hfg⟩
          refine ⟨_, rfl, _, rfl, sa, _, rfl, .inl (.inl (.inl hsa)), rfl, flat_nats _, _, rfl, ifF ?_ ?_⟩
          · rw [if_pos rfl, inV_nat, decide_eq_true hmem]; rfl
          have hZ : ((fitting pr.its m fs).map fun n => V.int (n : Nat)) = ((fitting pr.its m fs).map fun n : Nat => (n : Int)).map V.int := by rw [List.map_map]; rfl
          have hsZ := hsa
          rw [hZ] at hsZ
          refine ⟨_, rfl, _, rfl, sa, _, rfl, .inl (.inl hsZ), fit_len _ _ _, fun ps cc hps => ⟨ps, _, _, rfl, upd_same, fun ns2 p2 hs2 hm2 hp2 => ?_⟩⟩
          have en : ns2 = (fitting pr.its m fs).map fun n : Nat => (n : Int) := sorted_one hs2 (fit_rise _ _ _) fun k => (hm2 k).trans decide_eq_true_iff
          subst en
          rw [← hZ]
          have EE := (Ex.new (o := SetO w ps _ cc) hps).trans (Ex.new (o := .lst ((fitting pr.its m fs).map fun n => V.int (n : Nat))) hp2)
          refine ⟨.list _, .list _, .lst (.inl (.inl (EE _ _ hsa))) (dp_nats _), .lst (.inl (.inl upd_same)) (dp_nats _), shaped_nats _, shaped_nats _, _, rfl, ifF (by rw [SeqAt.eqv_refl _ (SeqAt.canLay_of_shaped (shaped_nats _))]; rfl) ?_⟩
          exact ⟨c, pt, pr, v1, t, an, fa, fs, sa, o10, o11, o14, o15, rfl, e4.trans (ExB.of EE), P4.mono EE, hc, ok, hfs.mono EE, hfl, hgf, hfg, EE _ _ hsa⟩
        clear P4 e4 hfs hfl hgf hfg hsa
        rintro σ H4 ⟨c, pt, pr, v1, t, an, fa, fs, sa, o10, o11, o14, o15, rfl, e4, P4, hc, ok, hfs, hfl, hgf, hfg, hsa⟩
        refine ⟨fun σ' H' => ∃ (c : Nat) (pt : List Nat) (pr : Prg) (v1 : V) (t : Addr) (an : Addr) (fa : Addr) (fs : List Fact) (sa : Addr) (o10 o11 o14 o15 : Option V), σ' = [some (.ref a), some (kk), some (.ref p), some (.str m.s), some (.int (c : Int)), some (.str (SX.S pt)), some (.str (SX.S pr.text)), some (v1), some (.ref t), some (.ref an), o10, o11, some (.ref fa), some (.ref sa), o14, o15] ∧ ExB p H3 H' ∧ PoolV H' p ∧ (1 ≤ c ∧ c ≤ 12) ∧ pr.Ok ∧ FactsV H' (.ref fa) fs ∧ fs.length ≤ 2 ∧ (∀ f ∈ fs, GoodFact f) ∧ factGood pr.its c m fs ∧ H' sa = some (.lst ((fitting pr.its m fs).map fun n => V.int (n : Nat))), ?_, ?_⟩
        · refine ⟨_, rfl, _, rfl, _, rfl, _, rfl, pr, m, .ref fa, fs, sa, fitting pr.its m fs, rfl, ok, hfs, hgf, by omega, hsa, by simpa using fit_len pr.its m fs, fun n hn => ((mem_fitting (its_ok ok) n).mp hn).1, fun C h1 h2 => (mem_fitting (its_ok ok) C).trans ⟨fun q => q.2, fun q => ⟨⟨h1, h2⟩, q⟩⟩, fun H5 EE => ?_⟩
          refine ⟨_, rfl, ifF rfl ?_⟩
          exact ⟨c, pt, pr, v1, t, an, fa, fs, sa, o10, o11, o14, o15, rfl, e4.trans (ExB.of EE), P4.mono EE, hc, ok, hfs.mono EE, hfl, hgf, hfg, EE _ _ hsa⟩
        clear P4 e4 hfs hfl hgf hfg hsa
        rintro σ H4 ⟨c, pt, pr, v1, t, an, fa, fs, sa, o10, o11, o14, o15, rfl, e4, P4, hc, ok, hfs, hfl, hgf, hfg, hsa⟩
        refine ⟨fun σ' H' => ∃ (c : Nat) (pt : List Nat) (pr : Prg) (v1 : V) (t : Addr) (an : Addr) (fa : Addr) (fs : List Fact) (sa : Addr) (d : Nat) (o11 o14 o15 : Option V), σ' = [some (.ref a), some (kk), some (.ref p), some (.str m.s), some (.int (c : Int)), some (.str (SX.S pt)), some (.str (SX.S pr.text)), some (v1), some (.ref t), some (.ref an), some (.int (d : Int)), o11, some (.ref fa), some (.ref sa), o14, o15] ∧ ExB p H3 H' ∧ PoolV H' p ∧ (1 ≤ c ∧ c ≤ 12) ∧ pr.Ok ∧ (1 ≤ d ∧ d ≤ 12) ∧ c ≠ d, ?_, ?_⟩
        · refine ⟨_, rfl, _, _, rfl, rfl, (show (0 : Int) < 12 by decide), _, _, rfl, rfl, ?_⟩
          exact ⟨c, pt, pr, v1, t, an, fa, fs, sa, 1 + c % 12, o11, o14, o15, by rw [show ((1 + c % 12 : Nat) : Int) = 1 + (c : Int) % 12 by omega]; rfl, e4, P4, hc, ok, ⟨by omega, by omega⟩, by omega⟩
        clear P4 e4 hfs hfl hgf hfg hsa
        rintro σ H4 ⟨c, pt, pr, v1, t, an, fa, fs, sa, d, o11, o14, o15, rfl, e4, P4, hc, ok, hd, hcd⟩
        refine ⟨_, rfl, _, rfl, _, rfl, _, rfl, two_size, fun q hq => ?_⟩
        refine ⟨pr, m, q, c, d, rfl, ok, upd_same, ⟨by omega, by omega⟩, ⟨by omega, by omega⟩, hcd, fun v5 H5 e5 q5 => ?_⟩
        refine ⟨_, rfl, _, rfl, _, rfl, _, rfl, pr, m, c, d, rfl, ok, ⟨by omega, by omega⟩, ⟨by omega, by omega⟩, fun v6 H6 e6 q6 => ?_⟩
        generalize telling pr.its m c d = z at q5 q6
        obtain ⟨z1, z2⟩ := z
        obtain ⟨p5, rfl, h5⟩ := q5
        obtain ⟨p6, rfl, h6⟩ := q6
        refine ⟨.tuple [.int z1, .int z2], .tuple [.int z1, .int z2], .tup (.inl (.inl (e6 _ _ h5))) (.cons (.int _) (.cons (.int _) .nil)), .tup (.inl (.inl h6)) (.cons (.int _) (.cons (.int _) .nil)), rfl, rfl, _, rfl, ifF (by rw [SeqAt.eqv_refl _ rfl]; rfl) ?_⟩
        have EE := ((Ex.new (o := .lst [.int (c : Int), .int (d : Int)]) hq).trans e5).trans e6
        exact ⟨_, _, _, _, _, _, _, _, _, _, _, _, _, rfl, e4.trans (ExB.of EE), P4.mono EE⟩
      · rintro σ H4 ⟨o3, o4, o5, o6, o7, o8, o9, o10, o11, o12, o13, o14, o15, rfl, e4, P4⟩
        exact ⟨_, _, _, _, _, _, _, _, _, _, _, _, _, _, _, rfl, sq_pool (e2.trans e3) hp e4 ha1⟩
    · rintro σ H1 ⟨o1, o2, o3, o4, o5, o6, o7, o8, o9, o10, o11, o12, o13, o14, o15, rfl, ha1⟩
      exact k _
end
end Fq

set_option Elab.async false
set_option linter.all false
set_option maxRecDepth 100000
set_option maxHeartbeats 2000000
namespace Fq
open PySem PySem.Spec PyProof.Rows L2
/-- the law's call, where at least B tokens are given out (turned from the hand layer's end of a law) -/
theorem law_callB {B : Nat} {P : Program} {w : World} {K : PySem.W.Frag} {mg mb : Str → Option Value} {k : Nat} {fa a : Addr} {x : Str} {sp : Sp} {s₁ : Shared} {vs : List Value} {ns : List Int}
    (KX : K.In s₁.heap) (hns : s₁.heap.Ns mainGlobals mg) (hb : s₁.heap.Ns builtinsNs mb) (hbb : ∀ x : Str, x ≠ "__name__" → mb x = bootBuiltins x) (hlim : s₁.heap.NoLimit) (hg : s₁.gens = #[])
    (ha : s₁.heap.get? a = some { cls := .type "list", data := .seq vs.toArray }) (hi : IntsAre vs ns) (hl : ns.length ≤ sizeLine) (hr : Room k callerA) (hB : B ≤ s₁.toks)
    (F : ∀ base : Heap, K.In base → base.Ns mainGlobals mg → CalB B P w K mg base k x sp) (hfa : mg x = some (.ref fa))
    (hsp : ∀ H : Hp, Only H → SqL K H a (ns.map V.int) → sp [.ref a] H (fun v _ => v = .bl true) fun _ _ _ => False)
    :
    codeAny (model P w) callerA (.call (.ref fa) ⟨[.ref a], []⟩) (fun r s' => r = .ok (.ret (.bool true)) ∧ OldK s₁.heap s'.heap ∧ s'.os = s₁.os ∧ AllBare s'.gens) s₁ := by
  have rv := vals_ints hi
  have lenV := hi.length
  -- from an abstract heap in which nothing but the script may be tracked
  have core : ∀ H : Hp, Only H → SqL K H a (ns.map V.int) → HOk P w H s₁.heap → (∀ b, H b ≠ none → b = a) → (H a ≠ none → K.lookup a = none) →
      codeAny (model P w) callerA (.call (.ref fa) ⟨[.ref a], []⟩) (fun r s' => r = .ok (.ret (.bool true)) ∧ OldK s₁.heap s'.heap ∧ s'.os = s₁.os ∧ AllBare s'.gens) s₁ := by
    intro H hO hS hok hA hK
    have base_of : ∀ {b : Addr} {o : Obj}, s₁.heap.get? b = some o → H b = none → (hidT s₁.heap H).get? b = some o := fun e n => hidT_get e n
    have noA : ∀ {b : Addr} {o : Obj} {es : Array DictEntry} {ep : Nat}, s₁.heap.get? b = some o → o.data = .dict es ep → H b = none := fun {b o es ep} e d => by
      cases q : H b with
      | none => rfl
      | some u =>
        have e' : b = a := hA b (by rw [q]; simp)
        subst e'
        rw [ha] at e; cases e
        have d' : Data.seq vs.toArray _ = Data.dict es ep := d
        cases d'
    have nsK : ∀ {b : Addr} {m : Str → Option Value}, s₁.heap.Ns b m → (hidT s₁.heap H).Ns b m := fun {b m} ⟨o, es, ep, e, d, r⟩ => ⟨o, es, ep, base_of e (noA e d), d, r⟩
    have hKb : K.In (hidT s₁.heap H) := fun b o e => base_of (KX b o e) (by
      cases q : H b with
      | none => rfl
      | some u =>
        have e' : b = a := hA b (by rw [q]; simp)
        subst e'
        rw [hK (by rw [q]; simp)] at e; cases e)
    have hM : Mod K mg (hidT s₁.heap H) := ⟨hKb, nsK hns, ⟨mb, nsK hb, hbb⟩, let ⟨mc, h1, h2⟩ := hlim; ⟨mc, nsK h1, h2⟩⟩
    have e0 : Env0 P w K mg (hidT s₁.heap H) callerA [] s₁ H := ⟨rfl, hM, fun b o e => of_hidT e, Nat.le_of_eq (hidT_size _ _), trivial, fun b hb => absurd (show b ∈ ([] : List Addr) from hb) (by simp), hok, .of_eq hg⟩
    obtain ⟨f, fd, ps, FF, hm, kp, b⟩ := (F _ hKb (nsK hns)).ex
    rw [hfa] at hm
    cases hm
    have hl1 : ([.ref a] ++ [] : List Value).length = ps.length := FF.len _ _ _ _ (hsp H hO hS)
    refine codeAny_mono (FF.run callerA [] s₁ H ⟨[.ref a], []⟩ [.ref a] [.ref a] _ _ hB hr e0 (by simpa using b s₁ [.ref a] KX hl1) (.cons rfl .nil) (hsp H hO hS)) fun r s' h => ?_
    cases r with
    | error e => exact (show False from h).elim
    | ok fl =>
      cases fl with
      | next => exact False.elim h
      | brk => exact False.elim h
      | cont => exact False.elim h
      | ret u =>
        obtain ⟨v, H', os, bare, un, hok', r', q⟩ := h
        have q' : v = .bl true := q
        subst q'
        obtain rfl : u = Value.bool true := r'
        refine ⟨rfl, OldK.of_keep fun b o e => ?_, os, bare⟩
        cases q : H b with
        | none => exact un.keep b o e q (by intro z; exact absurd (show b ∈ ([] : List Addr) from z) (by simp)) (by simp)
        | some u =>
          rcases hO b with z | ⟨ob, xs, z⟩
          · rw [q] at z; cases z
          · have z2 := un.frzs b ob _ z
            obtain ⟨e1, _⟩ := hok b _ z
            obtain ⟨e2, _⟩ := hok' b _ z2
            rw [e] at e1; cases e1
            exact e2
  cases hk : K.lookup a with
  | some o =>
    -- the script is one of the module's own objects
    have e := KX a o hk
    rw [ha] at e
    cases e
    refine core (fun _ => none) (fun _ => .inl rfl) (.inr ⟨_, vs.toArray, _, hk, rfl, rfl, rfl, by rw [List.size_toArray, lenV]; exact hl, by simpa using rv⟩) (fun b u z => by have z' : (none : Option HO) = some u := z; cases z') (fun b z => absurd rfl z) fun z => absurd rfl z
  | none =>
    refine core (fun b => if b = a then some (.frz { cls := .type "list", data := .seq vs.toArray } (.lst (ns.map V.int))) else none) (fun b => ?_) (.inl (.inr ⟨{ cls := .type "list", data := .seq vs.toArray }, if_pos rfl⟩)) (fun b u z => ?_) (fun b z => ?_) fun _ => hk
    · by_cases hb : b = a
      · exact .inr ⟨_, _, if_pos hb⟩
      · exact .inl (if_neg hb)
    · by_cases hb : b = a
      · have z' := (if_pos hb).symm.trans z
        cases z'
        subst hb
        exact ⟨ha, by rw [List.length_map]; exact hl, vs, _, rv, ha⟩
      · have z' := (if_neg hb).symm.trans z
        cases z'
    · by_cases hb : b = a
      · exact hb
      · exact absurd (if_neg hb) z
end Fq

set_option Elab.async false
set_option linter.all false
set_option maxRecDepth 100000
set_option maxHeartbeats 2000000
namespace Fq
open PySem PySem.W PySem.Spec PySem.Calls PyProof.Rows
abbrev qv : Program := view R.prog [79]
theorem left_T : LeftO R.prog qv loose (fun s => xlAt qv [] s && recOk R.toRowW.records s) obsT (fun _ => valT) (6000 + 600) true :=
  HandSHeadRun.left_one (M := 6000) (by kernel_rfl) (Nat.ble_eq_true_of_le (by omega)) (fun s => by kernel_rfl) (Nat.ble_eq_true_of_le (by omega)) fun w os => by
    have z := runT w os
    have eo : obT = fun s => obsT s.abs := funext obT_eq
    rw [eo] at z
    simp only [HandSHeadRun.endQ_eq, HandSHeadRun.seenQ_eq]
    exact z
/-- what the head says at the law's entry -/
theorem entry {w : World} {s₀ s₁ : Shared} {mg : Str → Option Value} (Y : obsT s₀ = valT) (k : ∀ b o, s₀.heap.get? b = some o → s₁.heap.get? b = some o) (hn : s₁.heap.Ns mainGlobals mg) (ht : s₀.toks ≤ s₁.toks) :
    ∃ (K : Frag) (u : Tok), K.In s₁.heap ∧ Tx K mg ∧ mg "TAKE" = some (.str "-" u) ∧ u ≠ 0 ∧ u + 1 ≤ s₁.toks := by
  have h1 : obsY 5 facts defs extra s₀.heap.get? = (He5.valA defs, true) := (Prod.ext_iff.mp Y).1
  have h2 : tokK (He.frG s₀.heap.get? (He5.asA s₀.heap.get? 5)) s₀.toks = true := (Prod.ext_iff.mp Y).2
  have KX : (He.frG s₀.heap.get? (He5.asA s₀.heap.get? 5)).In s₁.heap := PySem.W.Frag.In.keeps He.frG_in k
  have T : Tx (He.frG s₀.heap.get? (He5.asA s₀.heap.get? 5)) mg := ⟨(Prod.ext_iff.mp h1).1, (Prod.ext_iff.mp h1).2, ⟨s₁.heap, KX, hn⟩⟩
  generalize He.frG s₀.heap.get? (He5.asA s₀.heap.get? 5) = K at h2 KX T
  obtain ⟨t, hT⟩ := T.TAKE_
  unfold tokK at h2
  cases e : PySem.W.nsIn K mainGlobals "TAKE" with
  | none => rw [e] at h2; cases h2
  | some o =>
    rw [e] at h2
    cases o with
    | none => cases h2
    | some v =>
      have hv := PySem.W.mg_of KX hn e
      rw [hT] at hv
      cases hv
      have h2 : ((!Nat.beq t 0) && Nat.blt t s₀.toks) = true := h2
      obtain ⟨h3, h4⟩ := Bool.and_eq_true_iff.mp h2
      have h5 : t < s₀.toks := Nat.le_of_ble_eq_true h4
      refine ⟨K, t, KX, T, hT, fun z => ?_, Nat.le_trans (show t + 1 ≤ s₀.toks from h5) ht⟩
      subst z
      cases h3
end Fq

set_option Elab.async false
set_option linter.all false
set_option maxRecDepth 100000
set_option maxHeartbeats 2000000
namespace Fq
open PySem PySem.Spec PyProof.Rows L2
/-- all promises, to the law's -/
theorem all_law {P : Program} {w : World} {K : PySem.W.Frag} {mg : Str → Option Value} {base : Heap} {B : Nat} {u : Tok} (T : Tx K mg) (hTK : mg "TAKE" = some (.str "-" u)) (u0 : u ≠ 0) (uB : u < B) : CalB B P w K mg base 10 "law" (sp_law K) := by
  have h_c_is_integer := c_is_integer (P := P) (w := w) (base := base) T
  have h_c_is_capacity := c_is_capacity (P := P) (w := w) (base := base) T h_c_is_integer
  have h_c_check_capacity := c_check_capacity (P := P) (w := w) (base := base) T h_c_is_capacity
  have h_c_is_mode := c_is_mode (P := P) (w := w) (base := base) T
  have h_c_check_mode := c_check_mode (P := P) (w := w) (base := base) T h_c_is_mode
  have h_c_is_integer0 := c_is_integer0 (P := P) (w := w) (base := base) T
  have h_c_is_text_of := c_is_text_of (P := P) (w := w) (base := base) T
  have h_c_is_queue := c_is_queue (P := P) (w := w) (base := base) T h_c_check_capacity h_c_is_text_of
  have h_c_is_row := c_is_row (P := P) (w := w) (base := base) T h_c_is_integer0 h_c_is_queue
  have h_effC := effC (P := P) (w := w) (base := base) T h_c_check_capacity h_c_is_row
  have h_c_is_count := c_is_count (P := P) (w := w) (base := base) T
  have h_c_span_of := c_span_of (P := P) (w := w) (base := base) T
  have h_c_parse := c_parse (P := P) (w := w) (base := base) T h_c_is_count h_c_span_of
  have h_c_items_of := c_items_of (P := P) (w := w) (base := base) T h_c_parse
  have h_c_identity_rows := c_identity_rows (P := P) (w := w) (base := base) T
  have h_c_joined_row := c_joined_row (P := P) (w := w) (base := base) T
  have h_c_joined_rows := c_joined_rows (P := P) (w := w) (base := base) T h_c_joined_row
  have h_c_power_rows := c_power_rows (P := P) (w := w) (base := base) T h_c_identity_rows h_c_joined_rows
  have h_c_row_after := c_row_after (P := P) (w := w) (base := base) T
  have h_c_rows_of := c_rows_of (P := P) (w := w) (base := base) T h_c_identity_rows h_c_joined_rows h_c_power_rows h_c_row_after
  have h_c_effect_of := c_effect_of (P := P) (w := w) (base := base) T h_c_check_capacity h_c_check_mode h_effC h_c_items_of h_c_rows_of
  have h_c_is_queue0 := c_is_queue0 (P := P) (w := w) (base := base) T h_c_check_capacity h_c_is_text_of
  have h_c_is_fact := c_is_fact (P := P) (w := w) (base := base) T h_c_is_queue0
  have h_c_check_facts := c_check_facts (P := P) (w := w) (base := base) T h_c_is_fact
  have h_c_last_of := c_last_of (P := P) (w := w) (base := base) (B := B) T hTK u0 uB
  have h_c_start_range := c_start_range (P := P) (w := w) (base := base) T
  have h_c_result_by_length := c_result_by_length (P := P) (w := w) (base := base) (B := B) T h_c_last_of h_c_start_range
  have h_c_rows_of1 := c_rows_of1 (P := P) (w := w) (base := base) T h_c_identity_rows h_c_joined_rows h_c_power_rows h_c_row_after
  have h_c_row_of_program := c_row_of_program (P := P) (w := w) (base := base) T h_c_joined_row h_c_row_after h_c_rows_of1
  have h_c_result_by_row := c_result_by_row (P := P) (w := w) (base := base) T h_c_row_of_program
  have h_c_fits := c_fits (P := P) (w := w) (base := base) (B := B) T h_c_result_by_length h_c_result_by_row
  have h_c_joined := c_joined (P := P) (w := w) (base := base) T
  have h_c_repeated := c_repeated (P := P) (w := w) (base := base) T h_c_joined
  have h_c_five_of := c_five_of (P := P) (w := w) (base := base) T h_c_joined h_c_repeated
  have h_c_fitting_capacities := c_fitting_capacities (P := P) (w := w) (base := base) (B := B) T h_c_check_facts h_c_check_mode h_c_fits h_c_five_of h_c_items_of
  have h_c_check_answers := c_check_answers (P := P) (w := w) (base := base) T h_c_is_queue
  have h_c_row_of_answers := c_row_of_answers (P := P) (w := w) (base := base) T
  have h_c_identify := c_identify (P := P) (w := w) (base := base) T h_c_check_answers h_c_check_capacity h_effC h_c_row_of_answers
  have h_c_law_result := c_law_result (P := P) (w := w) (base := base) T
  have h_c_law_tests := c_law_tests (P := P) (w := w) (base := base) T
  have h_c_law_largest_right := c_law_largest_right (P := P) (w := w) (base := base) T h_effC h_c_effect_of h_c_identify h_c_law_result h_c_law_tests
  have h_c_law_other := c_law_other (P := P) (w := w) (base := base) T
  have h_c_law_pool := c_law_pool (P := P) (w := w) (base := base) T
  have h_c_law_sizes_right := c_law_sizes_right (P := P) (w := w) (base := base) T h_effC h_c_effect_of h_c_law_result
  have h_c_law_take := c_law_take (P := P) (w := w) (base := base) T
  have h_c_law_steps := c_law_steps (P := P) (w := w) (base := base) T h_c_law_take
  have h_c_law_telling := c_law_telling (P := P) (w := w) (base := base) T h_effC h_c_effect_of
  have h_c_check_capacities := c_check_capacities (P := P) (w := w) (base := base) T h_c_is_capacity
  have h_c_largest_group := c_largest_group (P := P) (w := w) (base := base) T
  have h_c_telling_length := c_telling_length (P := P) (w := w) (base := base) T h_c_check_capacities h_c_check_mode h_c_items_of h_c_largest_group h_c_rows_of
  have h_c_law := c_law (P := P) (w := w) (base := base) (B := B) T h_c_effect_of h_c_fitting_capacities h_c_identify h_effC h_c_law_largest_right h_c_law_other h_c_law_pool h_c_law_result h_c_law_sizes_right h_c_law_steps h_c_law_take h_c_law_telling h_c_law_tests h_c_telling_length
  exact h_c_law
end Fq

set_option Elab.async false
set_option linter.all false
set_option maxRecDepth 100000
set_option maxHeartbeats 2000000
open PySem PySem.W PySem.Spec PySem.Calls PyProof.Rows Fq
theorem Fq.ofPys_ints : ∀ ns : List Int, ofPys (ns.map PyData.int) = ns.map WData.int
  | [] => by simp [ofPys]
  | n :: ns => by simp [ofPys, ofPy, Fq.ofPys_ints ns]
theorem Fq.list_py (ns : List Int) : [WData.list (ns.map WData.int)] = [ofPy (PyData.list (ns.map PyData.int))] := by
  simp [ofPy, Fq.ofPys_ints]
theorem PySem.Challenge.cw_fullqueue_k63_whole_hidden_effects_holds : PySem.Challenge.rw_fullqueue_k63_whole_hidden_effects.Holds := by
  w_on; o_law
  refine holds_openX (r := R) (q := qv) (loose := loose) (XP := XL qv []) (Yf := obsT) (Ya := fun _ => valT) (d := HandSHeadRun.topDef R.prog 79) (kwd := []) left_T (fun s z => xl_of s (Bool.and_eq_true_iff.mp z).1) XL.keeps
    (by kernel_rfl) (by kernel_rfl) (by kernel_rfl) (fun s z => recFacts_of (Bool.and_eq_true_iff.mp z).2) (by rfl) (by first | assumption | decide +kernel) (by decide +kernel) ⟨rfl, rfl, rfl, rfl, rfl, by decide +kernel⟩ ?hw ?hc
  case hw => w_witness2
  case hc =>
    intro w s₀ s₁ mg mb G Y fa o pm cd doc dV kV ho hd hcd hD hmg0 hg args vals as L hpre hlay hrd hwl hlo
    have hmg : mg ("law" : PySem.Str) = some (.ref fa) := by
      have e : (HandSHeadRun.topDef R.prog 79).name = ("law" : PySem.Str) := by kernel_rfl
      rw [← e]
      exact hmg0
    obtain rfl : dV = .none := Dflts.none hD (by kernel_rfl)
    obtain rfl : kV = .none := Dflts.noKw hD
    obtain ⟨a, vs, ns, rfl, rfl, hobj, hints, hlen⟩ := Att.script_of (l := PySem.Challenge.rw_fullqueue_k63_whole_hidden_effects) (n := 63) rfl hpre hwl
    have ht : s₀.toks ≤ s₁.toks := by
      rw [list_py] at L
      exact X.script_toks L rfl
    obtain ⟨K, u, KX, T, hTK, u0, uB⟩ := entry (w := w) Y L.keeps G.T.g ht
    refine enter_call (codeAny_mono (law_callB (B := u + 1) (k := 10) KX G.T.g G.T.b G.T.builtins G.T.nolimit hg hobj hints (Nat.le_trans hlen (by decide)) ⟨rfl, by decide, by decide⟩ uB (fun base _ _ => all_law T hTK u0 (Nat.lt_succ_self u)) hmg (fun H hO hS => ⟨a, ns, rfl, hS, hlen, fun _ => rfl⟩)) fun r s' hq => ?_)
    obtain ⟨rfl, h2, h3, h4⟩ := hq
    exact ⟨.inl ⟨.bool true, .bool true, [], rfl, fun _ => rfl, .bool true, Att.post_true PySem.Challenge.rw_fullqueue_k63_whole_hidden_effects _, fun _ => ⟨List.Pairwise.nil, fun _ hm => (nomatch hm)⟩⟩, h2, h3, h4⟩
